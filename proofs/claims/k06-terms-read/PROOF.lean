import PyProof.Rows.All
import Wide.All
import OpenK.AllK
import Wide.FinOn
import HandS.ForMost
import HandS.Exc
import HandS.ExcOwn
import HandS.TryOnly
import HandS.WordsExc
import HandS.TupAny
import HandS.TupMul
import HandS.Deep
import HandS.IsInst
import HandS.StrSplit
import HandS.Ends
import PyProof.ReprRoads
import PyProof.StrBlock2
import HandS.RaiseMore
import HandS.ExcIs
import HandS.ExcField
import HandS.ExcInit
import KE.KExcIs
import HandS.TupLe
import HandS.NoneIn
import HandS.SetFor
import HandS.Replace
import KE.GoesMore
import HandS.Zip
import HandS.Style
import PySem.Challenge.RW_twomeant_k06_terms_written_and_read
set_option Elab.async false
set_option linter.all false
set_option maxRecDepth 100000
set_option maxHeartbeats 4000000
/-! The value layer, part a: what a def keeps where the guards of repr are known; plain data and who owns what. -/
namespace VL
open PySem PySem.Spec PyProof.Rows L2

/-! ### 1. A def's promise, the guards known -/
structure FnG (P : Program) (w : World) (K : PySem.W.Frag) (mg : Str → Option Value) (base : Heap)
    (k : Nat) (f : Addr) (fd : FuncData) (ps : List Str) (sp : Sp) : Prop where
  len : ∀ vs H Q E, sp vs H Q E → vs.length = ps.length
  run : ∀ (A : Around) (outer : List Env) (s : Shared) (H : Hp) (args : Args) (us : List Value) (vs : List V) (Q : VK) (E : XK),
    A.guards = some [] → Room k A → Env0 P w K mg base A outer s H → BindsTo s fd args (ps.zip us) → Vals vs us →
    sp vs H Q E → codeAny (model P w) A (.call (.ref f) args) (CR (L2.CX P w) outer P w H s Q E) s

theorem FnG.mono {P : Program} {w : World} {K : PySem.W.Frag} {mg : Str → Option Value} {base : Heap} {j k : Nat}
    {f : Addr} {fd : FuncData} {ps : List Str} {sp : Sp}
    (F : FnG P w K mg base j f fd ps sp) (h : j ≤ k) : FnG P w K mg base k f fd ps sp :=
  ⟨F.len, fun A outer s H args us vs Q E hg hr => F.run A outer s H args us vs Q E hg (hr.mono h)⟩

/-- a def by its body -/
theorem FnG.of {P : Program} {w : World} {K : PySem.W.Frag} {mg : Str → Option Value} {base : Heap} {x qual : Str}
    {st : Stmt} {f : Addr} {fd : FuncData} {N ps : List Str} {k : Nat} {sp : Sp}
    (F : Fun K x qual st f fd) (S : FnScope N ps (defScope st)) (len : ∀ vs H Q E, sp vs H Q E → vs.length = ps.length)
    (body : ∀ (cdv : Value) (A : Around) (outer : List Env) (s : Shared) (H : Hp) (vs : List V) (Q : VK) (E : XK),
      A.guards = some [] → Room k (A.deeper (envOfC qual (defScope st) s.heap.objs.size f cdv)) → sp vs H Q E →
      ∃ t, PSs (cxOf (L2.CX P w) P w K mg base N qual (defScope st) f cdv A outer s H E) (defBody st) t ∧
        t { nx := fun _ H' => Q .non H', rt := Q } (start N vs) H) :
    FnG P w K mg base (k + 1) f fd ps sp := by
  obtain ⟨oc, od, kV, doc, pm, an, cdv, ct, osl, rfl, lk, hcd⟩ := F.ex
  refine ⟨len, ?_⟩
  intro A outer s H args us vs Q E hg hr e0 hb r hsp
  have ll := len _ _ _ _ hsp
  have kx : K.In s.heap := e0.mod.kin.keeps fun b o e => (e0.bs b o e).1
  have li : s.heap.NoLimit := e0.mod.nolimit.keeps fun b o e => (e0.bs b o e).1
  have names : ∀ y ∈ ps.zip us, (defScope st).names.lookup y.1 = some .local ∨ ((defScope st).names.lookup y.1 = some .cell ∧
      ((cellsFrom (s.heap.objs.size + 1) (defScope st).names []).lookup y.1).isSome = true) := by
    rintro ⟨n, v⟩ hy
    cases S.par n (List.of_mem_zip hy).1 with
    | inl q => exact .inl q
    | inr q => exact .inr ⟨q, PySem.W.cellsFrom_some _ _ _ (.inl q)⟩
  refine codeAny_call_function hr.depth (kx _ _ lk) rfl S.co S.gen rfl (PySem.W.codeRec_of kx hcd) (hb _ _ _ _ ?_)
  refine wpAny_newFunctionEnv_cells S.kind names ?_
  intro env he s1 x
  subst he
  refine ⟨li.keeps x.toInCall.keep, codeAny_func ?_⟩
  obtain ⟨t, ht, hq⟩ := body cdv A outer s H vs Q E hg (hr.deeper _) hsp
  have I := inv_start (CX := L2.CX P w) (P := P) (w := w) (K := K) (mg := mg) (E := E) (cd := cdv) (f := f) (qual := qual) S hr.hd e0 ll r x
  refine wpAny_mono (ht.run [] s1 (start N vs) H _ I hq) ?_ (fun _ _ z => z)
  intro fl s' hs
  cases fl with
  | ret u =>
    obtain ⟨v, σ', H', J, rv, q⟩ := hs
    exact ⟨v, H', J.os, J.bare, J.base, J.hok, rv, q⟩
  | next =>
    obtain ⟨σ', H', J, q⟩ := hs
    exact ⟨V.non, H', J.os, J.bare, J.base, J.hok, rfl, q⟩
  | brk =>
    obtain ⟨_, _, _, q⟩ := hs
    exact q.elim
  | cont =>
    obtain ⟨_, _, _, q⟩ := hs
    exact q.elim

section
variable {X : Cx} {k : Nat} {f C : Addr} {fd : FuncData} {ps : List Str} {sp : Sp} {x m : Str} {p pos apos : Pos}
  {e o : Expr} {es : List Expr} {ta : TE} {t : TA} {W : WX}
theorem runG {pins : List (Addr × Obj)} {σ : L2.St} {H : Hp} {s : Shared} {Q : VK} {us : List Value} {vs : List V}
    (F : FnG X.prog X.w X.K X.mg X.base k f fd ps sp) (hg : X.A.guards = some []) (hr : Room k X.A) (hb : Binds X.K fd ps [])
    (tk : Takes X W) (I : Inv X pins σ H s) (r : Vals vs us) (h : sp vs H Q (WE W σ)) :
    wpAny (model X.prog X.w) X.A (call (.ref f) us) (EP X pins σ Q) X.xe s := by
  have ll : us.length = ps.length := r.length.symm.trans (F.len _ _ _ _ h)
  have bb := hb s us I.kIn (by simpa using ll)
  simp only [List.append_nil] at bb
  refine wpAny_call (codeAny_mono (F.run X.A X.stack s H ⟨us, []⟩ us vs Q (WE W σ) hg hr I.env0 bb r h) ?_)
  intro res s' hq
  cases res with
  | error er => exact passAt tk σ pins H s er s' I hq
  | ok fl =>
    cases fl with
    | ret u => exact I.after hq
    | next => exact hq.elim
    | brk => exact hq.elim
    | cont => exact hq.elim
theorem callG (F : FnG X.prog X.w X.K X.mg X.base k f fd ps sp) (hg : X.A.guards = some []) (hr : Room k X.A) (gl : Gl X x)
    (hm : X.mg x = some (.ref f)) (hk : PySem.W.keepIn X.K (.ref f) = true) (hb : Binds X.K fd ps []) (tk : Takes X W)
    (ha : PA X (e :: es) t) (hdb : (x == ("__debug__" : Str)) = false := by decide)
    (he : starEach (e :: es) X.env = (false, eval e X.env) :: starEach es X.env := by rfl)
    (hpl : (backTo pos (starEach es X.env)).any (·.1) = false := by rfl) :
    PE X (.Call (.Name x p) (e :: es) [] pos) (fun σ H Q => t σ H fun vs H1 => sp vs H1 Q (WE W σ)) := by
  refine ⟨fun pins s σ H Q I h => wpAny_Call_Name_kw (ld_glob I gl hm ?_ hdb)⟩
  refine PySem.W.callWith_K (h₀ := X.base) I.ok.mod.kin hk (thn (ha.run pos pins s σ H _ I h) ?_) he hpl
  rintro us s1 ⟨vs, H1, I1, r, q⟩
  exact ⟨I1.kIn, runG F hg hr hb tk I1 r q⟩
theorem callG0 (F : FnG X.prog X.w X.K X.mg X.base k f fd ps sp) (hg : X.A.guards = some []) (hr : Room k X.A) (gl : Gl X x)
    (hm : X.mg x = some (.ref f)) (hk : PySem.W.keepIn X.K (.ref f) = true) (hb : Binds X.K fd ps []) (tk : Takes X W)
    (hdb : (x == ("__debug__" : Str)) = false := by decide) :
    PE X (.Call (.Name x p) [] [] pos) (fun σ H Q => sp [] H Q (WE W σ)) := by
  refine ⟨fun pins s σ H Q I h => wpAny_Call_Name_kw (ld_glob I gl hm ?_ hdb)⟩
  exact PySem.W.callWith_K0 I.kIn hk (runG (us := []) F hg hr hb tk I .nil h)
end
end VL

namespace VL
open PySem PySem.Spec L2

/-! ### 2. Plain data; things that are owned -/
abbrev D := PyData
abbrev ZS := Addr → Prop
/-- what a name holds: plain data that nobody changes; an owned list (of plain data; of owned things), dict, instance; any other value -/
inductive O where
  | p (d : D)
  | ls (ds : List D)
  | lo (os : List O)
  | dc (es : List (Key × D))
  | dco (es : List (Key × O))
  | ins (C : Addr) (fs : List (Str × O))
  | val (v : V)
  | exc (a : Addr) (d : Option Addr) (C : Addr) (fs : List (Str × D))
  | fl (ns : List Int)
def kP : Key → D
  | .inl i => .int i
  | .inr x => .str x
mutual
/-- an owned thing let go: plain data -/
def frz : O → Option D
  | .p d => some d
  | .ls ds => some (.list ds)
  | .lo os => (frzs os).map .list
  | .dc es => some (.dict (es.map fun q => (kP q.1, q.2)))
  | .dco es => (frzk es).map .dict
  | .ins _ _ => none
  | .val _ => none
  | .exc _ _ _ _ => none
  | .fl _ => none
def frzs : List O → Option (List D)
  | [] => some []
  | o :: os => match frz o, frzs os with
    | some d, some ds => some (d :: ds)
    | _, _ => none
def frzk : List (Key × O) → Option (List (D × D))
  | [] => some []
  | (k, o) :: os => match frz o, frzk os with
    | some d, some ds => some ((kP k, d) :: ds)
    | _, _ => none
end

/-- the script: a list that is locked, or the module's own -/
def CF (K : PySem.W.Frag) (Z : ZS) (H : Hp) (a : Addr) (xs : List V) : Prop := (Z a ∧ Rd H a (.lst xs)) ∨ ∀ H', SqL K H' a xs
def CT (K : PySem.W.Frag) (Z : ZS) (H : Hp) (a : Addr) (xs : List V) : Prop := (Z a ∧ Rd H a (.tup xs)) ∨ ∀ H', SqT K H' a xs
mutual
inductive PD (K : PySem.W.Frag) (Z : ZS) (H : Hp) : V → D → Prop
  | non : PD K Z H .non .none
  | bl (b : Bool) : PD K Z H (.bl b) (.bool b)
  | int (i : Int) : PD K Z H (.int i) (.int i)
  | str (x : Str) : PD K Z H (.str x) (.str x)
  | lst {a : Addr} {xs : List V} {ds : List D} : Z a → H a = some (.lst xs) → PDs K Z H xs ds → PD K Z H (.ref a) (.list ds)
  | tup {a : Addr} {xs : List V} {ds : List D} : CT K Z H a xs → PDs K Z H xs ds → PD K Z H (.ref a) (.tuple ds)
  | dct {a : Addr} {kvs : List (Key × V)} {es : List (D × D)} : Z a → H a = some (.dK kvs) → es.map (·.1) = kvs.map (fun q => kP q.1) →
      PDs K Z H (kvs.map (·.2)) (es.map (·.2)) → PD K Z H (.ref a) (.dict es)
inductive PDs (K : PySem.W.Frag) (Z : ZS) (H : Hp) : List V → List D → Prop
  | nil : PDs K Z H [] []
  | cons {v : V} {vs : List V} {d : D} {ds : List D} : PD K Z H v d → PDs K Z H vs ds → PDs K Z H (v :: vs) (d :: ds)
end
section
variable {K : PySem.W.Frag} {Z Z' : ZS} {H H' : Hp}
/-- what plain data stands on is kept -/
def Kp (Z Z' : ZS) (H H' : Hp) : Prop := ∀ a, Z a → Z' a ∧ H' a = H a
theorem Kp.refl : Kp Z Z H H := fun _ z => ⟨z, rfl⟩
theorem Kp.trans {Z2 : ZS} {H2 : Hp} (a : Kp Z Z' H H') (b : Kp Z' Z2 H' H2) : Kp Z Z2 H H2 := fun c z => ⟨(b c (a c z).1).1, ((b c (a c z).1).2).trans (a c z).2⟩
theorem Rd.kp {a : Addr} {u : HO} (h : Rd H a u) (e : H' a = H a) : Rd H' a u := by
  unfold Rd at h ⊢
  rw [e]
  exact h
theorem CF.kp {a : Addr} {xs : List V} (c : CF K Z H a xs) (k : Kp Z Z' H H') : CF K Z' H' a xs := by
  rcases c with ⟨z, r⟩ | c
  · exact .inl ⟨(k a z).1, Rd.kp r (k a z).2⟩
  · exact .inr c
theorem CT.kp {a : Addr} {xs : List V} (c : CT K Z H a xs) (k : Kp Z Z' H H') : CT K Z' H' a xs := by
  rcases c with ⟨z, r⟩ | c
  · exact .inl ⟨(k a z).1, Rd.kp r (k a z).2⟩
  · exact .inr c
theorem CF.sq {a : Addr} {xs : List V} (c : CF K Z H a xs) : SqL K H a xs := by
  rcases c with ⟨_, r⟩ | c
  · exact .inl r
  · exact c H
theorem CT.sq {a : Addr} {xs : List V} (c : CT K Z H a xs) : SqT K H a xs := by
  rcases c with ⟨_, r⟩ | c
  · exact .inl r
  · exact c H
mutual
theorem PD.kp (k : Kp Z Z' H H') : ∀ {v : V} {d : D}, PD K Z H v d → PD K Z' H' v d
  | _, _, .non => .non
  | _, _, .bl b => .bl b
  | _, _, .int i => .int i
  | _, _, .str x => .str x
  | _, _, .lst z h r => .lst (k _ z).1 ((k _ z).2.trans h) (PDs.kp k r)
  | _, _, .tup c r => .tup (c.kp k) (PDs.kp k r)
  | _, _, .dct z h e r => .dct (k _ z).1 ((k _ z).2.trans h) e (PDs.kp k r)
theorem PDs.kp (k : Kp Z Z' H H') : ∀ {vs : List V} {ds : List D}, PDs K Z H vs ds → PDs K Z' H' vs ds
  | _, _, .nil => .nil
  | _, _, .cons h r => .cons (PD.kp k h) (PDs.kp k r)
end
theorem PDs.length : ∀ {vs : List V} {ds : List D}, PDs K Z H vs ds → vs.length = ds.length
  | _, _, .nil => rfl
  | _, _, .cons _ r => congrArg (· + 1) (PDs.length r)
theorem PDs.append : ∀ {vs ws : List V} {ds es : List D}, PDs K Z H vs ds → PDs K Z H ws es → PDs K Z H (vs ++ ws) (ds ++ es)
  | _, _, _, _, .nil, q => q
  | _, _, _, _, .cons h r, q => .cons h (PDs.append r q)
theorem PDs.get : ∀ {vs : List V} {ds : List D} {i : Nat} {d : D}, PDs K Z H vs ds → ds[i]? = some d → ∃ v, vs[i]? = some v ∧ PD K Z H v d
  | _, _, 0, _, .cons h _, e => by
    simp only [List.getElem?_cons_zero, Option.some.injEq] at e
    subst e
    exact ⟨_, rfl, h⟩
  | _, _, i + 1, d, .cons _ r, e => by
    obtain ⟨v, h1, h2⟩ := PDs.get (i := i) (d := d) r (by simpa using e)
    exact ⟨v, by simpa using h1, h2⟩
theorem PDs.get' : ∀ {vs : List V} {ds : List D} {i : Nat} {v : V}, PDs K Z H vs ds → vs[i]? = some v → ∃ d, ds[i]? = some d ∧ PD K Z H v d
  | _, _, 0, _, .cons h _, e => by
    simp only [List.getElem?_cons_zero, Option.some.injEq] at e
    subst e
    exact ⟨_, rfl, h⟩
  | _, _, i + 1, v, .cons _ r, e => by
    obtain ⟨d, h1, h2⟩ := PDs.get' (i := i) (v := v) r (by simpa using e)
    exact ⟨d, by simpa using h1, h2⟩
theorem PDs.take : ∀ {vs : List V} {ds : List D} (n : Nat), PDs K Z H vs ds → PDs K Z H (vs.take n) (ds.take n)
  | _, _, 0, _ => by simpa using PDs.nil
  | _, _, _ + 1, .nil => .nil
  | _, _, n + 1, .cons h r => .cons h (PDs.take n r)
theorem PDs.drop : ∀ {vs : List V} {ds : List D} (n : Nat), PDs K Z H vs ds → PDs K Z H (vs.drop n) (ds.drop n)
  | _, _, 0, r => r
  | _, _, _ + 1, .nil => .nil
  | _, _, n + 1, .cons _ r => PDs.drop n r
theorem PDs.set : ∀ {vs : List V} {ds : List D} (n : Nat) {v : V} {d : D}, PDs K Z H vs ds → PD K Z H v d → PDs K Z H (vs.set n v) (ds.set n d)
  | _, _, _, _, _, .nil, _ => .nil
  | _, _, 0, _, _, .cons _ r, q => .cons q r
  | _, _, n + 1, _, _, .cons h r, q => .cons h (PDs.set n r q)
end

/-- the dict of an exception that is held: plain for good -/
def XDz (K : PySem.W.Frag) (Z : ZS) (H : Hp) (d : Option Addr) (fs : List (Str × D)) : Prop := match d with
  | none => fs = []
  | some a => Z a ∧ ∃ ps, H a = some (.xd ps) ∧ fs.map (·.1) = ps.map (·.1) ∧ PDs K Z H (ps.map (·.2)) (fs.map (·.2))
theorem XDz.kp {K : PySem.W.Frag} {Z Z' : ZS} {H H' : Hp} {d : Option Addr} {fs : List (Str × D)} (h : XDz K Z H d fs) (k : Kp Z Z' H H') : XDz K Z' H' d fs := by
  cases d with
  | none => exact h
  | some a =>
    obtain ⟨z, ps, e, e1, r⟩ := h
    exact ⟨(k a z).1, ps, (k a z).2.trans e, e1, r.kp k⟩
mutual
inductive RO (K : PySem.W.Frag) (Z : ZS) (H : Hp) : O → V → List Addr → Prop
  | p {v : V} {d : D} : PD K Z H v d → RO K Z H (.p d) v []
  | ls {a : Addr} {xs : List V} {ds : List D} : H a = some (.lst xs) → PDs K Z H xs ds → RO K Z H (.ls ds) (.ref a) [a]
  | lo {a : Addr} {xs : List V} {os : List O} {f : List Addr} : H a = some (.lst xs) → ROs K Z H os xs f → RO K Z H (.lo os) (.ref a) (a :: f)
  | dc {a : Addr} {kvs : List (Key × V)} {es : List (Key × D)} : H a = some (.dK kvs) → es.map (·.1) = kvs.map (·.1) → PDs K Z H (kvs.map (·.2)) (es.map (·.2)) →
      RO K Z H (.dc es) (.ref a) [a]
  | dco {a : Addr} {kvs : List (Key × V)} {es : List (Key × O)} {f : List Addr} : H a = some (.dK kvs) → es.map (·.1) = kvs.map (·.1) →
      ROs K Z H (es.map (·.2)) (kvs.map (·.2)) f → RO K Z H (.dco es) (.ref a) (a :: f)
  | ins {a C dx : Addr} {vs : List (Str × V)} {fs : List (Str × O)} {f : List Addr} : H a = some (.ins C dx vs) → fs.map (·.1) = vs.map (·.1) →
      ROs K Z H (fs.map (·.2)) (vs.map (·.2)) f → RO K Z H (.ins C fs) (.ref a) (a :: f)
  | val (v : V) : RO K Z H (.val v) v []
  | exc {a C : Addr} {d : Option Addr} {fs : List (Str × D)} : XDz K Z H d fs → RO K Z H (.exc a d C fs) (.ref a) []
  | fl {a : Addr} {ns : List Int} : CF K Z H a (ns.map V.int) → RO K Z H (.fl ns) (.ref a) []
inductive ROs (K : PySem.W.Frag) (Z : ZS) (H : Hp) : List O → List V → List Addr → Prop
  | nil : ROs K Z H [] [] []
  | cons {o : O} {os : List O} {v : V} {vs : List V} {f g : List Addr} : RO K Z H o v f → ROs K Z H os vs g → ROs K Z H (o :: os) (v :: vs) (f ++ g)
end
section
variable {K : PySem.W.Frag} {Z Z' : ZS} {H H' : Hp}
mutual
theorem RO.kp (k : Kp Z Z' H H') : ∀ {o : O} {v : V} {f : List Addr}, RO K Z H o v f → (∀ a ∈ f, H' a = H a) → RO K Z' H' o v f
  | _, _, _, .p h, _ => .p (h.kp k)
  | _, _, _, .ls h r, q => .ls ((q _ (by simp)).trans h) (r.kp k)
  | _, _, _, .lo h r, q => .lo ((q _ (by simp)).trans h) (ROs.kp k r fun a ha => q a (by simp [ha]))
  | _, _, _, .dc h e r, q => .dc ((q _ (by simp)).trans h) e (r.kp k)
  | _, _, _, .dco h e r, q => .dco ((q _ (by simp)).trans h) e (ROs.kp k r fun a ha => q a (by simp [ha]))
  | _, _, _, .ins h e r, q => .ins ((q _ (by simp)).trans h) e (ROs.kp k r fun a ha => q a (by simp [ha]))
  | _, _, _, .val v, _ => .val v
  | _, _, _, .exc x, _ => .exc (x.kp k)
  | _, _, _, .fl c, _ => .fl (c.kp k)
theorem ROs.kp (k : Kp Z Z' H H') : ∀ {os : List O} {vs : List V} {f : List Addr}, ROs K Z H os vs f → (∀ a ∈ f, H' a = H a) → ROs K Z' H' os vs f
  | _, _, _, .nil, _ => .nil
  | _, _, _, .cons h r, q => .cons (RO.kp k h fun a ha => q a (by simp [ha])) (ROs.kp k r fun a ha => q a (by simp [ha]))
end
mutual
theorem RO.al : ∀ {o : O} {v : V} {f : List Addr}, RO K Z H o v f → ∀ a ∈ f, H a ≠ none
  | _, _, _, .p _, _, q => by simp at q
  | _, _, _, .ls h _, a, q => by
    rw [List.mem_singleton.mp q, h]; simp
  | _, _, _, .lo h r, a, q => by
    rcases List.mem_cons.mp q with rfl | q
    · rw [h]; simp
    · exact ROs.al r a q
  | _, _, _, .dc h _ _, a, q => by
    rw [List.mem_singleton.mp q, h]; simp
  | _, _, _, .dco h _ r, a, q => by
    rcases List.mem_cons.mp q with rfl | q
    · rw [h]; simp
    · exact ROs.al r a q
  | _, _, _, .ins h _ r, a, q => by
    rcases List.mem_cons.mp q with rfl | q
    · rw [h]; simp
    · exact ROs.al r a q
  | _, _, _, .val _, _, q => by simp at q
  | _, _, _, .exc _, _, q => by simp at q
  | _, _, _, .fl _, _, q => by simp at q
theorem ROs.al : ∀ {os : List O} {vs : List V} {f : List Addr}, ROs K Z H os vs f → ∀ a ∈ f, H a ≠ none
  | _, _, _, .nil, _, q => by simp at q
  | _, _, _, .cons h r, a, q => by
    rcases List.mem_append.mp q with q | q
    · exact RO.al h a q
    · exact ROs.al r a q
end
theorem Kp.or {f : List Addr} : Kp Z (fun a => Z a ∨ a ∈ f) H H := fun _ z => ⟨.inl z, rfl⟩
theorem Kp.sub {Z2 : ZS} (h : ∀ a, Z a → Z2 a) : Kp Z Z2 H H := fun a z => ⟨h a z, rfl⟩
mutual
/-- let go -/
theorem RO.frz : ∀ {o : O} {v : V} {f : List Addr} {d : D}, RO K Z H o v f → frz o = some d → PD K (fun a => Z a ∨ a ∈ f) H v d
  | _, _, _, _, .p h, e => by
    simp only [VL.frz, Option.some.injEq] at e
    subst e
    exact h.kp Kp.or
  | _, _, _, _, .ls h r, e => by
    simp only [VL.frz, Option.some.injEq] at e
    subst e
    exact .lst (.inr (by simp)) h (r.kp Kp.or)
  | _, _, _, _, .lo h r, e => by
    simp only [VL.frz, Option.map_eq_some_iff] at e
    obtain ⟨ds, e1, e2⟩ := e
    subst e2
    exact .lst (.inr (by simp)) h ((ROs.frz r e1).kp (Kp.sub fun a z => z.elim .inl fun m => .inr (by simp [m])))
  | _, _, _, _, .dc h e' r, e => by
    simp only [VL.frz, Option.some.injEq] at e
    subst e
    refine .dct (.inr (by simp)) h ?_ ?_
    · rw [List.map_map]
      have := congrArg (List.map kP) e'
      simpa [List.map_map, Function.comp_def] using this
    · rw [List.map_map]
      exact r.kp Kp.or
  | _, _, _, _, .dco h e' r, e => by
    simp only [VL.frz, Option.map_eq_some_iff] at e
    obtain ⟨ds, e1, e2⟩ := e
    subst e2
    obtain ⟨q1, q2⟩ := frzk_split _ _ e1
    refine .dct (.inr (by simp)) h ?_ ((ROs.frz r q2).kp (Kp.sub fun a z => z.elim .inl fun m => .inr (by simp [m])))
    rw [q1]
    have := congrArg (List.map kP) e'
    simpa [List.map_map, Function.comp_def] using this
  | _, _, _, _, .ins _ _ _, e => by simp [VL.frz] at e
  | _, _, _, _, .val _, e => by simp [VL.frz] at e
  | _, _, _, _, .exc _, e => by simp [VL.frz] at e
  | _, _, _, _, .fl _, e => by simp [VL.frz] at e
theorem ROs.frz : ∀ {os : List O} {vs : List V} {f : List Addr} {ds : List D}, ROs K Z H os vs f → frzs os = some ds → PDs K (fun a => Z a ∨ a ∈ f) H vs ds
  | _, _, _, _, .nil, e => by
    simp only [frzs, Option.some.injEq] at e
    subst e
    exact .nil
  | _, _, _, _, .cons (o := o) (os := os) h r, e => by
    unfold frzs at e
    cases e1 : VL.frz o with
    | none => rw [e1] at e; simp at e
    | some d =>
      cases e2 : frzs os with
      | none => rw [e1, e2] at e; simp at e
      | some ds =>
        rw [e1, e2] at e
        simp only [Option.some.injEq] at e
        subst e
        exact .cons ((RO.frz h e1).kp (Kp.sub fun a z => z.elim .inl fun m => .inr (by simp [m]))) ((ROs.frz r e2).kp (Kp.sub fun a z => z.elim .inl fun m => .inr (by simp [m])))
theorem frzk_split : ∀ (es : List (Key × O)) (ds : List (D × D)), frzk es = some ds → ds.map (·.1) = es.map (fun q => kP q.1) ∧ frzs (es.map (·.2)) = some (ds.map (·.2))
  | [], ds, e => by
    simp only [frzk, Option.some.injEq] at e
    subst e
    exact ⟨rfl, rfl⟩
  | (k, o) :: es, ds, e => by
    unfold frzk at e
    cases e1 : VL.frz o with
    | none => rw [e1] at e; simp at e
    | some d =>
      cases e2 : frzk es with
      | none => rw [e1, e2] at e; simp at e
      | some r =>
        rw [e1, e2] at e
        simp only [Option.some.injEq] at e
        subst e
        obtain ⟨q1, q2⟩ := frzk_split es r e2
        refine ⟨by simp [q1], ?_⟩
        simp only [List.map_cons, frzs]
        rw [e1, q2]
end
end
end VL

namespace VL
open PySem PySem.Spec L2

/-! ### 3. The state of a frame: what each name holds, which addresses each name owns -/
abbrev Gm := List (Option O)
abbrev Ow := Nat → List Addr
structure SO (K : PySem.W.Frag) (Z : ZS) (H : Hp) (σ : L2.St) (g : Gm) (w : Ow) : Prop where
  len : g.length ≤ σ.length
  rep : ∀ i o, g[i]? = some (some o) → ∃ v, σ[i]? = some (some v) ∧ RO K Z H o v (w i)
  nd : ∀ i, (w i).Nodup
  dj : ∀ i j a, a ∈ w i → a ∈ w j → i = j
  nz : ∀ i a, a ∈ w i → ¬ Z a
  wal : ∀ i a, a ∈ w i → H a ≠ none
  zal : ∀ a, Z a → H a ≠ none
/-- what is changed on the way: only what the names of T own -/
structure Pst (T : List Nat) (Z : ZS) (H : Hp) (g : Gm) (w : Ow) (Z' : ZS) (H' : Hp) (g' : Gm) (w' : Ow) : Prop where
  zm : ∀ a, Z a → Z' a
  only : ∀ a, H a ≠ none → (∀ i ∈ T, a ∉ w i) → H' a = H a
  al : ∀ a, H a ≠ none → H' a ≠ none
  zn : ∀ a, Z' a → Z a ∨ H a = none ∨ ∃ i ∈ T, a ∈ w i
  fg : ∀ i, i ∉ T → g'[i]? = g[i]?
  fw : ∀ i, i ∉ T → w' i = w i
  src : ∀ i ∈ T, ∀ a, a ∈ w' i → H a = none ∨ ∃ j ∈ T, a ∈ w j
section
variable {K : PySem.W.Frag} {Z Z1 Z2 : ZS} {H H1 H2 : Hp} {σ : L2.St} {g g1 g2 : Gm} {w w1 w2 : Ow} {T T1 T2 : List Nat}
theorem Pst.refl : Pst [] Z H g w Z H g w := ⟨fun _ z => z, fun _ _ _ => rfl, fun _ h => h, fun _ z => .inl z, fun _ _ => rfl, fun _ _ => rfl, fun _ m => absurd m (by simp)⟩
theorem Pst.kp (p : Pst T Z H g w Z1 H1 g1 w1) (s : SO K Z H σ g w) : Kp Z Z1 H H1 := fun a z =>
  ⟨p.zm a z, p.only a (s.zal a z) fun i _ m => s.nz i a m z⟩
/-- a name outside T keeps what it owns -/
theorem Pst.keeps (p : Pst T Z H g w Z1 H1 g1 w1) (s : SO K Z H σ g w) {i : Nat} (hi : i ∉ T) : ∀ a ∈ w i, H1 a = H a := fun a m =>
  p.only a (s.wal i a m) fun j hj mj => hi (by rw [s.dj i j a m mj]; exact hj)
theorem Pst.mono (p : Pst T Z H g w Z1 H1 g1 w1) (h : ∀ i ∈ T, i ∈ T2) : Pst T2 Z H g w Z1 H1 g1 w1 where
  zm := p.zm
  only := fun a ha q => p.only a ha fun i hi => q i (h i hi)
  al := p.al
  zn := fun a z => (p.zn a z).imp id fun z => z.imp id fun ⟨i, hi, m⟩ => ⟨i, h i hi, m⟩
  fg := fun i hi => p.fg i fun m => hi (h i m)
  fw := fun i hi => p.fw i fun m => hi (h i m)
  src := fun i hi a m => by
    by_cases e : i ∈ T
    · exact (p.src i e a m).imp id fun ⟨j, hj, m⟩ => ⟨j, h j hj, m⟩
    · rw [p.fw i e] at m
      exact .inr ⟨i, hi, m⟩
theorem Pst.trans (p : Pst T1 Z H g w Z1 H1 g1 w1) (q : Pst T2 Z1 H1 g1 w1 Z2 H2 g2 w2) : Pst (T1 ++ T2) Z H g w Z2 H2 g2 w2 := by
  have back : ∀ a j, j ∈ T1 ++ T2 → a ∈ w1 j → H a = none ∨ ∃ k ∈ T1 ++ T2, a ∈ w k := fun a j hj m => by
    by_cases e : j ∈ T1
    · exact (p.src j e a m).imp id fun ⟨k, hk, m⟩ => ⟨k, by simp [hk], m⟩
    · rw [p.fw j e] at m
      exact .inr ⟨j, hj, m⟩
  have hn : ∀ a, H1 a = none → H a = none := fun a e => by
    cases h : H a with
    | none => rfl
    | some o => exact absurd e (p.al a (by rw [h]; simp))
  refine ⟨fun a z => q.zm a (p.zm a z), fun a ha hw => ?_, fun a h => q.al a (p.al a h), fun a z => ?_, fun i hi => ?_, fun i hi => ?_, fun i hi a m => ?_⟩
  · have e1 := p.only a ha fun i hi => hw i (by simp [hi])
    refine (q.only a (by rw [e1]; exact ha) fun i hi m => ?_).trans e1
    by_cases e : i ∈ T1
    · rcases p.src i e a m with z | ⟨k, hk, mk⟩
      · exact ha z
      · exact hw k (by simp [hk]) mk
    · rw [p.fw i e] at m
      exact hw i (by simp [hi]) m
  · rcases q.zn a z with z | z | ⟨i, hi, m⟩
    · exact (p.zn a z).imp id fun z => z.imp id fun ⟨i, hi, m⟩ => ⟨i, by simp [hi], m⟩
    · exact .inr (.inl (hn a z))
    · exact .inr (back a i (by simp [hi]) m)
  · simp only [List.mem_append, not_or] at hi
    rw [q.fg i hi.2, p.fg i hi.1]
  · simp only [List.mem_append, not_or] at hi
    rw [q.fw i hi.2, p.fw i hi.1]
  · by_cases e : i ∈ T2
    · rcases q.src i e a m with z | ⟨j, hj, mj⟩
      · exact .inl (hn a z)
      · exact back a j (by simp [hj]) mj
    · rw [q.fw i e] at m
      exact back a i hi m
end

/-! ### 4. What an expression gives: plain data; a look at what a name owns (pl puts another thing in its place); a new thing that is owned -/
inductive R where
  | p (d : D)
  | sl (i : Nat) (o : O)
  | vw (i : Nat) (o : O) (pl : O → O)
  | ow (o : O)
def VW (K : PySem.W.Frag) (Z : ZS) (H : Hp) (σ : L2.St) (g : Gm) (w : Ow) (i : Nat) (o : O) (pl : O → O) (v : V) : Prop :=
  ∃ (rv : V) (pre f post : List Addr), σ[i]? = some (some rv) ∧ w i = pre ++ f ++ post ∧ RO K Z H o v f ∧ g[i]? = some (some (pl o)) ∧
    ∀ (Z2 : ZS) (H2 : Hp) (o2 : O) (f2 : List Addr), Kp Z Z2 H H2 → (∀ a ∈ pre ++ post, H2 a = H a) → RO K Z2 H2 o2 v f2 → RO K Z2 H2 (pl o2) rv (pre ++ f2 ++ post)
inductive RRs (K : PySem.W.Frag) (Z : ZS) (H : Hp) (σ : L2.St) (g : Gm) (w : Ow) : List R → List V → List Addr → Prop
  | nil : RRs K Z H σ g w [] [] []
  | p {d : D} {v : V} {rs : List R} {vs : List V} {f : List Addr} : PD K Z H v d → RRs K Z H σ g w rs vs f → RRs K Z H σ g w (.p d :: rs) (v :: vs) f
  | sl {i : Nat} {o : O} {v : V} {rs : List R} {vs : List V} {f : List Addr} : σ[i]? = some (some v) → g[i]? = some (some o) → RO K Z H o v (w i) → RRs K Z H σ g w rs vs f → RRs K Z H σ g w (.sl i o :: rs) (v :: vs) f
  | vw {i : Nat} {o : O} {pl : O → O} {v : V} {rs : List R} {vs : List V} {f : List Addr} : VW K Z H σ g w i o pl v → RRs K Z H σ g w rs vs f → RRs K Z H σ g w (.vw i o pl :: rs) (v :: vs) f
  | ow {o : O} {v : V} {rs : List R} {vs : List V} {f1 f : List Addr} : RO K Z H o v f1 → RRs K Z H σ g w rs vs f → RRs K Z H σ g w (.ow o :: rs) (v :: vs) (f1 ++ f)
section
variable {K : PySem.W.Frag} {Z Z1 Z2 : ZS} {H H1 H2 : Hp} {σ : L2.St} {g g1 g2 : Gm} {w w1 w2 : Ow} {T T1 T2 : List Nat} {rs qs : List R} {vs us : List V} {f f1 f2 : List Addr}
theorem VW.kp {i : Nat} {o : O} {pl : O → O} {v : V} (h : VW K Z H σ g w i o pl v) (k : Kp Z Z1 H H1) (hw : ∀ a ∈ w i, H1 a = H a) (eg : g1[i]? = g[i]?) (ew : w1 i = w i) : VW K Z1 H1 σ g1 w1 i o pl v := by
  obtain ⟨rv, pre, f, post, h1, h2, h3, h4, h5⟩ := h
  refine ⟨rv, pre, f, post, h1, ew.trans h2, h3.kp k fun a m => hw a (by rw [h2]; simp [m]), eg.trans h4, fun Z2 H2 o2 f2 k2 hp r => ?_⟩
  refine h5 Z2 H2 o2 f2 (k.trans k2) (fun a m => (hp a m).trans (hw a ?_)) r
  rw [h2]
  rcases List.mem_append.mp m with m | m <;> simp [m]
/-- the names that are looked at stay as they are -/
def grd (r : R) (T : List Nat) (P : Prop) : Prop := match r with
  | .sl i _ => T.contains i = false ∧ P
  | .vw i _ _ => T.contains i = false ∧ P
  | _ => P
structure Out (K : PySem.W.Frag) (T : List Nat) (Z : ZS) (H : Hp) (g : Gm) (w : Ow) (σ : L2.St) (Z' : ZS) (H' : Hp) (g' : Gm) (w' : Ow) (rs : List R) (vs : List V) (f : List Addr) : Prop where
  so : SO K Z' H' σ g' w'
  ps : Pst T Z H g w Z' H' g' w'
  rr : RRs K Z' H' σ g' w' rs vs f
  nd : f.Nodup
  dz : ∀ a ∈ f, ¬ Z' a
  dw : ∀ a ∈ f, ∀ i, a ∉ w' i
  fal : ∀ a ∈ f, H' a ≠ none
  sr : ∀ a ∈ f, H a = none ∨ ∃ j ∈ T, a ∈ w j
theorem Out.nil (s : SO K Z H σ g w) : Out K [] Z H g w σ Z H g w [] [] [] :=
  ⟨s, .refl, .nil, List.nodup_nil, fun _ m => absurd m (by simp), fun _ m => absurd m (by simp), fun _ m => absurd m (by simp), fun _ m => absurd m (by simp)⟩
theorem RRs.al : RRs K Z H σ g w rs vs f → ∀ a ∈ f, H a ≠ none := fun h => by
  induction h with
  | nil => intro a m; simp at m
  | p _ _ ih => exact ih
  | sl _ _ _ _ ih => exact ih
  | vw _ _ ih => exact ih
  | ow r _ ih =>
    intro a m
    rcases List.mem_append.mp m with m | m
    · exact r.al a m
    · exact ih a m
/-- one more in front: r stood at the state 1, the others were reckoned from there -/
theorem Out.cons {r : R} {v : V} (h1 : Out K T1 Z H g w σ Z1 H1 g1 w1 [r] [v] f1) (h2 : Out K T2 Z1 H1 g1 w1 σ Z2 H2 g2 w2 rs vs f2) (hg : grd r T2 True) :
    Out K (T1 ++ T2) Z H g w σ Z2 H2 g2 w2 (r :: rs) (v :: vs) (f1 ++ f2) := by
  have k := h2.ps.kp h1.so
  have hn : ∀ a, H1 a = none → H a = none := fun a e => by
    cases h : H a with
    | none => rfl
    | some o => exact absurd e (h1.ps.al a (by rw [h]; simp))
  have notw : ∀ a ∈ f1, H1 a ≠ none ∧ ∀ i, a ∉ w1 i := fun a m => ⟨h1.fal a m, h1.dw a m⟩
  have fk : ∀ a ∈ f1, H2 a = H1 a := fun a m => h2.ps.only a (notw a m).1 fun i _ => (notw a m).2 i
  refine ⟨h2.so, h1.ps.trans h2.ps, ?_, ?_, fun a m z => ?_, fun a m i mi => ?_, fun a m => ?_, fun a m => ?_⟩
  · have q := h1.rr
    cases q with
    | p h q => cases q; simpa using RRs.p (h.kp k) h2.rr
    | sl e1 e2 ro q =>
      cases q
      rename_i i o
      have hi : i ∉ T2 := by simpa [grd] using hg
      have ew := h2.ps.fw i hi
      refine RRs.sl e1 ((h2.ps.fg i hi).trans e2) ?_ h2.rr
      rw [ew]
      exact ro.kp k (h2.ps.keeps h1.so hi)
    | vw h q =>
      cases q
      rename_i i o pl
      have hi : i ∉ T2 := by simpa [grd] using hg
      simpa using RRs.vw (h.kp k (h2.ps.keeps h1.so hi) (h2.ps.fg i hi) (h2.ps.fw i hi)) h2.rr
    | ow h q =>
      cases q
      rename_i o f0
      rw [List.append_nil]
      exact RRs.ow (h.kp k fun a m => fk a (by simp [m])) h2.rr
  · rw [List.nodup_append]
    refine ⟨h1.nd, h2.nd, fun a ma b mb e => ?_⟩
    subst e
    rcases h2.sr a mb with z | ⟨j, _, mj⟩
    · exact (notw a ma).1 z
    · exact (notw a ma).2 j mj
  · rcases List.mem_append.mp m with m | m
    · rcases h2.ps.zn a z with z | z | ⟨i, _, mi⟩
      · exact h1.dz a m z
      · exact (notw a m).1 z
      · exact (notw a m).2 i mi
    · exact h2.dz a m z
  · rcases List.mem_append.mp m with m | m
    · by_cases e : i ∈ T2
      · rcases h2.ps.src i e a mi with z | ⟨j, _, mj⟩
        · exact (notw a m).1 z
        · exact (notw a m).2 j mj
      · rw [h2.ps.fw i e] at mi
        exact (notw a m).2 i mi
    · exact h2.dw a m i mi
  · rcases List.mem_append.mp m with m | m
    · rw [fk a m]; exact (notw a m).1
    · exact h2.fal a m
  · rcases List.mem_append.mp m with m | m
    · exact (h1.sr a m).imp id fun ⟨j, hj, mj⟩ => ⟨j, by simp [hj], mj⟩
    · rcases h2.sr a m with z | ⟨j, hj, mj⟩
      · exact .inl (hn a z)
      · by_cases e : j ∈ T1
        · exact (h1.ps.src j e a mj).imp id fun ⟨k, hk, mm⟩ => ⟨k, by simp [hk], mm⟩
        · rw [h1.ps.fw j e] at mj
          exact .inr ⟨j, by simp [hj], mj⟩
theorem Out.mono (h : Out K T Z H g w σ Z1 H1 g1 w1 rs vs f) (hT : ∀ i ∈ T, i ∈ T2) : Out K T2 Z H g w σ Z1 H1 g1 w1 rs vs f :=
  ⟨h.so, h.ps.mono hT, h.rr, h.nd, h.dz, h.dw, h.fal, fun a m => (h.sr a m).imp id fun ⟨j, hj, mj⟩ => ⟨j, hT j hj, mj⟩⟩
end

/-! ### 5. Readings and judgements -/
abbrev EX := Addr → List (Str × D) → Gm → Prop
abbrev AE := Gm → (R → Gm → Prop) → EX → Prop
abbrev AA := Gm → (List R → Gm → Prop) → EX → Prop
/-- the dict of an exception -/
abbrev XD (K : PySem.W.Frag) (Z : ZS) (H : Hp) (d : Option Addr) (fs : List (Str × D)) : Prop := XDz K Z H d fs
def exOk (K : PySem.W.Frag) (W : WX) (T : List Nat) (Z : ZS) (H : Hp) (g : Gm) (w : Ow) (σ : L2.St) (E : EX) : Prop :=
  ∀ C fs d Z' H' g' w', E C fs g' → SO K Z' H' σ g' w' → Pst T Z H g w Z' H' g' w' → XD K Z' H' d fs → W (.ref C) d σ H'
def lift (K : PySem.W.Frag) (W : WX) (T : List Nat) (t : AE) : TE := fun σ H Q => ∃ Z g w q E, SO K Z H σ g w ∧ t g q E ∧
  (∀ r v Z' H' g' w' f, q r g' → Out K T Z H g w σ Z' H' g' w' [r] [v] f → Q v H') ∧ exOk K W T Z H g w σ E
def liftA (K : PySem.W.Frag) (W : WX) (T : List Nat) (t : AA) : TA := fun σ H Q => ∃ Z g w q E, SO K Z H σ g w ∧ t g q E ∧
  (∀ rs vs Z' H' g' w' f, q rs g' → Out K T Z H g w σ Z' H' g' w' rs vs f → Q vs H') ∧ exOk K W T Z H g w σ E
structure JE (X : Cx) (W : WX) (T : List Nat) (e : Expr) (t : AE) : Prop where
  pe : PE X e (lift X.K W T t)
structure JA (X : Cx) (W : WX) (T : List Nat) (es : List Expr) (t : AA) : Prop where
  pa : PA X es (liftA X.K W T t)
theorem PEi {X : Cx} {e : Expr} {t t' : TE} (h : PE X e t) (i : ∀ σ H Q, t' σ H Q → t σ H Q) : PE X e t' := ⟨fun pins s σ H Q I q => h.run pins s σ H Q I (i σ H Q q)⟩
theorem PAi {X : Cx} {es : List Expr} {t t' : TA} (h : PA X es t) (i : ∀ σ H Q, t' σ H Q → t σ H Q) : PA X es t' := ⟨fun pos pins s σ H Q I q => h.run pos pins s σ H Q I (i σ H Q q)⟩
theorem PTi {X : Cx} {e : Expr} {t t' : TT} (h : PT X e t) (i : ∀ σ H Q, t' σ H Q → t σ H Q) : PT X e t' := ⟨fun pins s σ H Q I q => h.run pins s σ H Q I (i σ H Q q)⟩
theorem PSi {X : Cx} {st : Stmt} {t t' : TS} (h : PS X st t) (i : ∀ D σ H, t' D σ H → t D σ H) : PS X st t' := ⟨fun pins s σ H D I q => h.run pins s σ H D I (i D σ H q)⟩
theorem PSsi {X : Cx} {st : List Stmt} {t t' : TS} (h : PSs X st t) (i : ∀ D σ H, t' D σ H → t D σ H) : PSs X st t' := ⟨fun pins s σ H D I q => h.run pins s σ H D I (i D σ H q)⟩
section
variable {K : PySem.W.Frag} {W : WX} {T T1 T2 : List Nat} {Z Z1 : ZS} {H H1 : Hp} {g g1 : Gm} {w w1 : Ow} {σ : L2.St} {E : EX}
theorem exOk.of (h : exOk K W (T1 ++ T2) Z H g w σ E) : exOk K W T1 Z H g w σ E := fun C fs d Z' H' g' w' e s p x => h C fs d Z' H' g' w' e s (p.mono fun i hi => by simp [hi]) x
theorem exOk.then (h : exOk K W (T1 ++ T2) Z H g w σ E) (p : Pst T1 Z H g w Z1 H1 g1 w1) : exOk K W T2 Z1 H1 g1 w1 σ E := fun C fs d Z' H' g' w' e s q x => h C fs d Z' H' g' w' e s (p.trans q) x
theorem exOk.mono (h : exOk K W T2 Z H g w σ E) (hT : ∀ i ∈ T, i ∈ T2) : exOk K W T Z H g w σ E := fun C fs d Z' H' g' w' e s p x => h C fs d Z' H' g' w' e s (p.mono hT) x
end
def aNil : AA := fun g Q _ => Q [] g
def aCons (T2 : List Nat) (t1 : AE) (t2 : AA) : AA := fun g Q E => t1 g (fun r g1 => grd r T2 (t2 g1 (fun rs g2 => Q (r :: rs) g2) E)) E
theorem grd.get {r : R} {T : List Nat} {P : Prop} (h : grd r T P) : grd r T True ∧ P := by
  cases r with
  | p d => exact ⟨trivial, h⟩
  | sl i o => exact ⟨⟨h.1, trivial⟩, h.2⟩
  | vw i o pl => exact ⟨⟨h.1, trivial⟩, h.2⟩
  | ow o => exact ⟨trivial, h⟩
section
variable {X : Cx} {W : WX} {T T1 T2 : List Nat} {e : Expr} {es : List Expr} {t1 : AE} {t2 : AA}
/-- the reading of a first expression and more, from their joint reading -/
theorem seq2 {K : PySem.W.Frag} {σ : L2.St} {Z : ZS} {H : Hp} {g : Gm} {w : Ow} {q : List R → Gm → Prop} {E : EX} {P : V → List V → Hp → Prop} {tr : TA}
    (S : SO K Z H σ g w) (h : aCons T2 t1 t2 g q E) (ok : ∀ rs v vs Z' H' g' w' f, q rs g' → Out K (T1 ++ T2) Z H g w σ Z' H' g' w' rs (v :: vs) f → P v vs H')
    (ex : exOk K W (T1 ++ T2) Z H g w σ E) : lift K W T1 t1 σ H fun v H1 => liftA K W T2 t2 σ H1 fun vs H2 => P v vs H2 := by
  refine ⟨Z, g, w, _, E, S, h, fun r v Z1 H1 g1 w1 f1 q1 O1 => ?_, ex.of⟩
  obtain ⟨gr, q1⟩ := grd.get q1
  exact ⟨Z1, g1, w1, _, E, O1.so, q1, fun rs vs Z2 H2 g2 w2 f2 q2 O2 => ok _ v vs Z2 H2 g2 w2 _ q2 (O1.cons O2 gr), ex.then O1.ps⟩
theorem ja_nil : JA X W [] [] aNil := ⟨PAi pa_nil fun σ H Q ⟨Z, g, w, q, E, S, h, ok, ex⟩ => ok [] [] Z H g w [] h (Out.nil S)⟩
theorem ja_cons (h1 : JE X W T1 e t1) (h2 : JA X W T2 es t2) (hs : starEach (e :: es) X.env = (false, eval e X.env) :: starEach es X.env := by rfl) : JA X W (T1 ++ T2) (e :: es) (aCons T2 t1 t2) :=
  ⟨PAi (pa_cons h1.pe h2.pa hs) fun σ H Q ⟨Z, g, w, q, E, S, h, ok, ex⟩ =>
    seq2 (tr := liftA X.K W T2 t2) (P := fun v vs H' => Q (v :: vs) H') S h (fun rs v vs Z' H' g' w' f qq O => ok rs (v :: vs) Z' H' g' w' f qq O) ex⟩
end
end VL

namespace VL
open PySem PySem.Spec L2

/-! ### 6. Operations that read plain data and give plain data, or a new list -/
/-- new things are laid, nothing else is done -/
structure Ext (Z : ZS) (H : Hp) (Z' : ZS) (H' : Hp) (f : List Addr) : Prop where
  zm : ∀ a, Z a → Z' a
  kp : ∀ a, H a ≠ none → H' a = H a
  zn : ∀ a, Z' a → Z a ∨ H a = none
  zl : ∀ a, Z' a → H' a ≠ none
  fn : ∀ a ∈ f, H a = none
  fl : ∀ a ∈ f, H' a ≠ none
  fz : ∀ a ∈ f, ¬ Z' a
  nd : f.Nodup
inductive RR1 (K : PySem.W.Frag) (Z : ZS) (H : Hp) : R → V → List Addr → Prop
  | p {d : D} {v : V} : PD K Z H v d → RR1 K Z H (.p d) v []
  | ow {o : O} {v : V} {f : List Addr} : RO K Z H o v f → RR1 K Z H (.ow o) v f
section
variable {K : PySem.W.Frag} {Z Z1 Z2 : ZS} {H H1 H2 : Hp} {σ : L2.St} {g g1 g2 : Gm} {w w1 w2 : Ow} {T T1 T2 : List Nat} {rs qs : List R} {vs us : List V} {f f1 f2 : List Addr}
theorem Ext.refl (zl : ∀ a, Z a → H a ≠ none) : Ext Z H Z H [] :=
  ⟨fun _ z => z, fun _ _ => rfl, fun _ z => .inl z, zl, fun _ m => absurd m (by simp), fun _ m => absurd m (by simp), fun _ m => absurd m (by simp), List.nodup_nil⟩
theorem Ext.kpp (x : Ext Z H Z1 H1 f) (zl : ∀ a, Z a → H a ≠ none) : Kp Z Z1 H H1 := fun a z => ⟨x.zm a z, x.kp a (zl a z)⟩
theorem SO.ext (s : SO K Z H σ g w) (x : Ext Z H Z1 H1 f) : SO K Z1 H1 σ g w where
  len := s.len
  rep := fun i o e => by
    obtain ⟨v, h1, h2⟩ := s.rep i o e
    exact ⟨v, h1, h2.kp (x.kpp s.zal) fun a m => x.kp a (h2.al a m)⟩
  nd := s.nd
  dj := s.dj
  nz := fun i a m z => (x.zn a z).elim (s.nz i a m) (s.wal i a m)
  wal := fun i a m => by rw [x.kp a (s.wal i a m)]; exact s.wal i a m
  zal := x.zl
theorem Ext.pst (x : Ext Z H Z1 H1 f) : Pst [] Z H g w Z1 H1 g w :=
  ⟨x.zm, fun a h _ => x.kp a h, fun a h => by rw [x.kp a h]; exact h, fun a z => (x.zn a z).imp id .inl, fun _ _ => rfl, fun _ _ => rfl, fun _ m => absurd m (by simp)⟩
theorem Out.op {rr : R} {v : V} (O : Out K T Z H g w σ Z1 H1 g1 w1 rs vs f1) (x : Ext Z1 H1 Z2 H2 f2) (r : RR1 K Z2 H2 rr v f2) : Out K T Z H g w σ Z2 H2 g1 w1 [rr] [v] f2 := by
  refine ⟨O.so.ext x, by simpa using O.ps.trans (x.pst (g := g1) (w := w1)), ?_, x.nd, x.fz, fun a m i mi => O.so.wal i a mi (x.fn a m), x.fl, fun a m => .inl ?_⟩
  · cases r with
    | p h => exact .p h .nil
    | ow h => simpa using RRs.ow h (RRs.nil (K := K) (Z := Z2) (H := H2) (σ := σ) (g := g1) (w := w1))
  · have e := x.fn a m
    cases h : H a with
    | none => rfl
    | some o => exact absurd e (O.ps.al a (by rw [h]; simp))
/-- a new object, plain -/
theorem Ext.new (zl : ∀ a, Z a → H a ≠ none) {p : Addr} {o : HO} (hp : H p = none) : Ext Z H (fun a => Z a ∨ a = p) (upd H p o) [] where
  zm := fun _ z => .inl z
  kp := fun a h => upd_ne fun (e : a = p) => h (by rw [e]; exact hp)
  zn := fun a z => z.imp id fun (e : a = p) => by rw [e]; exact hp
  zl := fun a z => by
    by_cases e : a = p
    · rw [e, upd_same]; simp
    · rw [upd_ne e]
      exact zl a (z.resolve_right e)
  fn := fun _ m => absurd m (by simp)
  fl := fun _ m => absurd m (by simp)
  fz := fun _ m => absurd m (by simp)
  nd := List.nodup_nil
/-- .. owned -/
theorem Ext.own (zl : ∀ a, Z a → H a ≠ none) {p : Addr} {o : HO} (hp : H p = none) : Ext Z H Z (upd H p o) [p] where
  zm := fun _ z => z
  kp := fun a h => upd_ne fun (e : a = p) => h (by rw [e]; exact hp)
  zn := fun a z => .inl z
  zl := fun a z => by
    have ne : a ≠ p := fun e => zl a z (by rw [e]; exact hp)
    rw [upd_ne ne]
    exact zl a z
  fn := fun a m => by rw [List.mem_singleton.mp m]; exact hp
  fl := fun a m => by rw [List.mem_singleton.mp m, upd_same]; simp
  fz := fun a m z => by rw [List.mem_singleton.mp m] at z; exact zl p z hp
  nd := by simp
theorem Kp.new (zl : ∀ a, Z a → H a ≠ none) {p : Addr} {o : HO} (hp : H p = none) : Kp Z (fun a => Z a ∨ a = p) H (upd H p o) := (Ext.new zl hp).kpp zl
theorem Kp.own (zl : ∀ a, Z a → H a ≠ none) {p : Addr} {o : HO} (hp : H p = none) : Kp Z Z H (upd H p o) := (Ext.own zl hp).kpp zl
end
/-- data that is read: its items stand for good, itself for now -/
def PDt (K : PySem.W.Frag) (Z : ZS) (H : Hp) (v : V) : D → Prop
  | .list ds => ∃ a xs, v = .ref a ∧ H a = some (.lst xs) ∧ PDs K Z H xs ds
  | .dict es => ∃ a kvs, v = .ref a ∧ H a = some (.dK kvs) ∧ es.map (·.1) = kvs.map (fun q => kP q.1) ∧ PDs K Z H (kvs.map (·.2)) (es.map (·.2))
  | d => PD K Z H v d
/-- .. the script, too -/
def PDu (K : PySem.W.Frag) (Z : ZS) (H : Hp) (v : V) : D → Prop
  | .list ds => ∃ a xs, v = .ref a ∧ SqL K H a xs ∧ PDs K Z H xs ds
  | d => PDt K Z H v d
inductive All2 {α β : Type} (P : α → β → Prop) : List α → List β → Prop
  | nil : All2 P [] []
  | cons {a : α} {b : β} {as : List α} {bs : List β} : P a b → All2 P as bs → All2 P (a :: as) (b :: bs)
section
variable {K : PySem.W.Frag} {Z Z1 Z2 : ZS} {H H1 H2 : Hp} {σ : L2.St} {g g1 g2 : Gm} {w w1 w2 : Ow} {T T1 T2 : List Nat} {rs qs : List R} {vs us : List V} {f f1 f2 : List Addr} {v : V} {d : D}
theorem PD.t (h : PD K Z H v d) : PDt K Z H v d := by
  cases h with
  | non => exact .non
  | bl b => exact .bl b
  | int i => exact .int i
  | str x => exact .str x
  | lst z h r => exact ⟨_, _, rfl, h, r⟩
  | tup c r => exact .tup c r
  | dct z h e r => exact ⟨_, _, rfl, h, e, r⟩
theorem PDt.u (h : PDt K Z H v d) : PDu K Z H v d := by
  cases d with
  | list ds => obtain ⟨a, xs, e, h, r⟩ := h; exact ⟨a, xs, e, .of h, r⟩
  | _ => exact h
theorem RO.p_inv (h : RO K Z H (.p d) v f) : PD K Z H v d ∧ f = [] := by
  cases h with
  | p h => exact ⟨h, rfl⟩
/-- what may be read of a thing: its items are plain -/
def sh : O → Option D
  | .p d => some d
  | .ls ds => some (.list ds)
  | .dc es => some (.dict (es.map fun q => (kP q.1, q.2)))
  | _ => none
def dat : R → Option D
  | .p d => some d
  | .sl _ o => sh o
  | .vw _ o _ => sh o
  | .ow o => sh o
def datu : R → Option D
  | .p d => some d
  | .sl _ (.fl ns) => some (.list (ns.map .int))
  | .sl _ o => sh o
  | .vw _ o _ => sh o
  | .ow o => sh o
theorem ints_pd (ns : List Int) : PDs K Z H (ns.map V.int) (ns.map PyData.int) := by
  induction ns with
  | nil => exact .nil
  | cons n ns ih => exact .cons (.int n) ih
theorem RO.t {o : O} (h : RO K Z H o v f) (e : sh o = some d) : PDt K Z H v d := by
  cases h with
  | p h => cases e; exact h.t
  | ls h r => cases e; exact ⟨_, _, rfl, h, r⟩
  | dc h e' r =>
    cases e
    refine ⟨_, _, rfl, h, ?_, ?_⟩
    · rw [List.map_map]
      simpa [List.map_map, Function.comp_def] using congrArg (List.map kP) e'
    · rw [List.map_map]; exact r
  | lo _ _ => cases e
  | dco _ _ _ => cases e
  | ins _ _ _ => cases e
  | val _ => cases e
  | exc _ => cases e
  | fl _ => cases e
def datL (da : R → Option D) : List R → Option (List D)
  | [] => some []
  | r :: rs => match da r, datL da rs with
    | some d, some ds => some (d :: ds)
    | _, _ => none
theorem datL_cons {da : R → Option D} {r : R} {rs : List R} {ds : List D} (e : datL da (r :: rs) = some ds) : ∃ d t, da r = some d ∧ datL da rs = some t ∧ ds = d :: t := by
  unfold datL at e
  cases e1 : da r with
  | none => rw [e1] at e; simp at e
  | some d =>
    cases e2 : datL da rs with
    | none => rw [e1, e2] at e; simp at e
    | some t => rw [e1, e2] at e; exact ⟨d, t, rfl, rfl, (Option.some.inj e).symm⟩
theorem RRs.t (h : RRs K Z H σ g w rs vs f) : ∀ {ds : List D}, datL dat rs = some ds → All2 (PDt K Z H) vs ds := by
  induction h with
  | nil => intro ds e; cases e; exact .nil
  | p h _ ih =>
    intro ds e
    obtain ⟨d, t, e1, e2, rfl⟩ := datL_cons e
    cases e1
    exact .cons h.t (ih e2)
  | sl _ _ h _ ih =>
    intro ds e
    obtain ⟨d, t, e1, e2, rfl⟩ := datL_cons e
    exact .cons (h.t e1) (ih e2)
  | vw h _ ih =>
    intro ds e
    obtain ⟨d, t, e1, e2, rfl⟩ := datL_cons e
    obtain ⟨rv, pre, f, post, _, _, h, _⟩ := h
    exact .cons (h.t e1) (ih e2)
  | ow h _ ih =>
    intro ds e
    obtain ⟨d, t, e1, e2, rfl⟩ := datL_cons e
    exact .cons (h.t e1) (ih e2)
theorem RRs.u (h : RRs K Z H σ g w rs vs f) : ∀ {ds : List D}, datL datu rs = some ds → All2 (PDu K Z H) vs ds := by
  induction h with
  | nil => intro ds e; cases e; exact .nil
  | p h _ ih =>
    intro ds e
    obtain ⟨d, t, e1, e2, rfl⟩ := datL_cons e
    cases e1
    exact .cons h.t.u (ih e2)
  | sl _ _ h _ ih =>
    intro ds e
    obtain ⟨d, t, e1, e2, rfl⟩ := datL_cons e
    refine .cons ?_ (ih e2)
    generalize w _ = fw at h
    cases h with
    | fl c =>
      cases e1
      exact ⟨_, _, rfl, c.sq, ints_pd _⟩
    | p h => cases e1; exact h.t.u
    | ls h r => exact ((RO.ls h r).t e1).u
    | dc h e' r => exact ((RO.dc h e' r).t e1).u
    | lo _ _ => cases e1
    | dco _ _ _ => cases e1
    | ins _ _ _ => cases e1
    | val _ => cases e1
    | exc _ => cases e1
  | vw h _ ih =>
    intro ds e
    obtain ⟨d, t, e1, e2, rfl⟩ := datL_cons e
    obtain ⟨rv, pre, f, post, _, _, h, _⟩ := h
    exact .cons (h.t e1).u (ih e2)
  | ow h _ ih =>
    intro ds e
    obtain ⟨d, t, e1, e2, rfl⟩ := datL_cons e
    exact .cons (h.t e1).u (ih e2)
end
/-- an operation by values, r, is told by aop on what is read -/
abbrev Aop := List D → (R → Prop) → Prop
def POk (K : PySem.W.Frag) (r : List V → Hp → VK → Prop) (aop : Aop) : Prop :=
  ∀ (Z : ZS) (H : Hp) (vs : List V) (ds : List D) (k : R → Prop) (Q : VK), (∀ a, Z a → H a ≠ none) → All2 (PDt K Z H) vs ds → aop ds k →
    (∀ rr v Z' H' f, k rr → Ext Z H Z' H' f → RR1 K Z' H' rr v f → Q v H') → r vs H Q
def POu (K : PySem.W.Frag) (r : List V → Hp → VK → Prop) (aop : Aop) : Prop :=
  ∀ (Z : ZS) (H : Hp) (vs : List V) (ds : List D) (k : R → Prop) (Q : VK), (∀ a, Z a → H a ≠ none) → All2 (PDu K Z H) vs ds → aop ds k →
    (∀ rr v Z' H' f, k rr → Ext Z H Z' H' f → RR1 K Z' H' rr v f → Q v H') → r vs H Q
def rOp (aop : Aop) (ta : AA) : AE := fun g Q E => ta g (fun rs g1 => match datL dat rs with
  | some ds => aop ds fun rr => Q rr g1
  | none => False) E
def rOu (aop : Aop) (ta : AA) : AE := fun g Q E => ta g (fun rs g1 => match datL datu rs with
  | some ds => aop ds fun rr => Q rr g1
  | none => False) E
section
variable {K : PySem.W.Frag} {W : WX} {T : List Nat} {ta : AA} {r : List V → Hp → VK → Prop} {aop : Aop}
theorem lift_op (hp : POk K r aop) {σ : L2.St} {H : Hp} {Q : VK} (h : lift K W T (rOp aop ta) σ H Q) : liftA K W T ta σ H fun vs H1 => r vs H1 Q := by
  obtain ⟨Z, g, w, q, E, S, h, ok, ex⟩ := h
  refine ⟨Z, g, w, _, E, S, h, fun rs vs Z1 H1 g1 w1 f1 q1 O1 => ?_, ex⟩
  cases e : datL dat rs with
  | none => rw [e] at q1; exact q1.elim
  | some ds =>
    rw [e] at q1
    exact hp Z1 H1 vs ds _ Q O1.so.zal (O1.rr.t e) q1 fun rr v Z' H' f kk x rr1 => ok rr v Z' H' g1 w1 f kk (O1.op x rr1)
theorem lift_ou (hp : POu K r aop) {σ : L2.St} {H : Hp} {Q : VK} (h : lift K W T (rOu aop ta) σ H Q) : liftA K W T ta σ H fun vs H1 => r vs H1 Q := by
  obtain ⟨Z, g, w, q, E, S, h, ok, ex⟩ := h
  refine ⟨Z, g, w, _, E, S, h, fun rs vs Z1 H1 g1 w1 f1 q1 O1 => ?_, ex⟩
  cases e : datL datu rs with
  | none => rw [e] at q1; exact q1.elim
  | some ds =>
    rw [e] at q1
    exact hp Z1 H1 vs ds _ Q O1.so.zal (O1.rr.u e) q1 fun rr v Z' H' f kk x rr1 => ok rr v Z' H' g1 w1 f kk (O1.op x rr1)
/-- two expressions: their joint reading gives the nested one -/
theorem lift2 {T1 T2 : List Nat} {t1 t2 : AE} {σ : L2.St} {H : Hp} {P : V → V → Hp → Prop} (h : liftA K W (T1 ++ (T2 ++ [])) (aCons (T2 ++ []) t1 (aCons [] t2 aNil)) σ H fun vs H1 => ∃ x y, vs = [x, y] ∧ P x y H1) :
    lift K W T1 t1 σ H fun x H1 => lift K W T2 t2 σ H1 fun y H2 => P x y H2 := by
  obtain ⟨Z, g, w, q, E, S, h, ok, ex⟩ := h
  have h' : aCons T2 t1 (aCons [] t2 aNil) g q E := by simpa using h
  simp only [List.append_nil] at ok ex
  refine ⟨Z, g, w, _, E, S, h', fun r v Z1 H1 g1 w1 f1 q1 O1 => ?_, ex.of⟩
  obtain ⟨gr, q1⟩ := grd.get q1
  refine ⟨Z1, g1, w1, _, E, O1.so, q1, fun r2 v2 Z2 H2 g2 w2 f2 q2 O2 => ?_, ex.then O1.ps⟩
  obtain ⟨gr2, q2⟩ := grd.get q2
  obtain ⟨x, y, e, p⟩ := ok _ _ Z2 H2 g2 w2 _ q2 (O1.cons O2 gr)
  cases e
  exact p
theorem lift1 {T1 : List Nat} {t1 : AE} {σ : L2.St} {H : Hp} {P : V → Hp → Prop} (h : liftA K W (T1 ++ []) (aCons [] t1 aNil) σ H fun vs H1 => ∃ x, vs = [x] ∧ P x H1) :
    lift K W T1 t1 σ H fun x H1 => P x H1 := by
  obtain ⟨Z, g, w, q, E, S, h, ok, ex⟩ := h
  simp only [List.append_nil] at ok ex
  refine ⟨Z, g, w, _, E, S, h, fun r v Z1 H1 g1 w1 f1 q1 O1 => ?_, ex⟩
  obtain ⟨gr, q1⟩ := grd.get q1
  have O2 := O1.cons (Out.nil O1.so) gr
  simp only [List.append_nil] at O2
  obtain ⟨x, e, p⟩ := ok _ _ Z1 H1 g1 w1 _ q1 O2
  cases e
  exact p
end
def tw (r : R2) : List V → Hp → VK → Prop := fun vs H Q => ∃ x y, vs = [x, y] ∧ r x y H Q
def on (r : V → Hp → VK → Prop) : List V → Hp → VK → Prop := fun vs H Q => ∃ x, vs = [x] ∧ r x H Q
/-- the joint reading of two, of one -/
abbrev a2 (T2 : List Nat) (t1 t2 : AE) : AA := aCons (T2 ++ []) t1 (aCons [] t2 aNil)
abbrev a1 (t1 : AE) : AA := aCons [] t1 aNil
section
variable {X : Cx} {W : WX} {T T1 T2 : List Nat} {a b : Expr} {es : List Expr} {ta tb : AE} {tas : AA} {pos : Pos} {aop : Aop}
theorem je_bin {op : Operator} {r : R2} (ho : OpR X (binaryOp op) r) (hp : POk X.K (tw r) aop) (ha : JE X W T1 a ta) (hb : JE X W T2 b tb) : JE X W (T1 ++ (T2 ++ [])) (.BinOp a op b pos) (rOp aop (a2 T2 ta tb)) :=
  ⟨PEi (pe_op ho ha.pe hb.pe) fun σ H Q h => lift2 (P := fun x y H2 => r x y H2 Q) (lift_op hp h)⟩
theorem je_cmp {op : CmpOp} {r : R2} (ho : OpR X (compareOp op) r) (hp : POk X.K (tw r) aop) (hm : behindInMarks op b = false) (ha : JE X W T1 a ta) (hb : JE X W T2 b tb) :
    JE X W (T1 ++ (T2 ++ [])) (.Compare a [op] [b] pos) (rOp aop (a2 T2 ta tb)) :=
  ⟨PEi (pe_cmpR ho ha.pe hb.pe hm) fun σ H Q h => lift2 (P := fun x y H2 => r x y H2 Q) (lift_op hp h)⟩
theorem je_ix {r : R2} (ho : IxR X r) (hp : POu X.K (tw r) aop) (ha : JE X W T1 a ta) (hb : JE X W T2 b tb) (hs : PlainIx b) : JE X W (T1 ++ (T2 ++ [])) (.Subscript a b pos) (rOu aop (a2 T2 ta tb)) :=
  ⟨PEi (pe_ix ho ha.pe hb.pe hs) fun σ H Q h => lift2 (P := fun x y H2 => r x y H2 Q) (lift_ou hp h)⟩
theorem je_un {op : UnaryOp} {r : V → Hp → VK → Prop} (ho : UnR X (unaryOp op) r) (hp : POk X.K (on r) aop) (ha : JE X W T1 a ta) : JE X W (T1 ++ []) (.UnaryOp op a pos) (rOp aop (a1 ta)) :=
  ⟨PEi (pe_un ho ha.pe) fun σ H Q h => lift1 (P := fun x H2 => r x H2 Q) (lift_op hp h)⟩
/-- f(e, ..), f built in -/
theorem je_B {x : Str} {p : Pos} {e : Expr} {id : String} {r : List V → Hp → VK → Prop} (hc : CallR X (.builtin id) r) (hp : POu X.K r aop) (hg : Gl X x) (hm : X.mg x = none) (hv : bootBuiltins x = some (.builtin id)) (ha : JA X W T (e :: es) tas)
    (hn : x ≠ "__name__" := by decide) (hdb : (x == ("__debug__" : Str)) = false := by decide) (he : starEach (e :: es) X.env = (false, eval e X.env) :: starEach es X.env := by rfl)
    (hpl : (backTo pos (starEach es X.env)).any (·.1) = false := by rfl) : JE X W T (.Call (.Name x p) (e :: es) [] pos) (rOu aop tas) :=
  ⟨PEi (pe_callB hc hg hm hv ha.pa hn hdb he hpl) fun σ H Q h => lift_ou hp h⟩
theorem je_Ty {x : Str} {p : Pos} {e : Expr} {id : String} {r : List V → Hp → VK → Prop} (hc : CallR X (.type id) r) (hp : POu X.K r aop) (hg : Gl X x) (hm : X.mg x = none) (hv : bootBuiltins x = some (.type id)) (ha : JA X W T (e :: es) tas)
    (hn : x ≠ "__name__" := by decide) (hdb : (x == ("__debug__" : Str)) = false := by decide) (he : starEach (e :: es) X.env = (false, eval e X.env) :: starEach es X.env := by rfl)
    (hpl : (backTo pos (starEach es X.env)).any (·.1) = false := by rfl) : JE X W T (.Call (.Name x p) (e :: es) [] pos) (rOu aop tas) :=
  ⟨PEi (pe_callTy hc hg hm hv ha.pa hn hdb he hpl) fun σ H Q h => lift_ou hp h⟩
end
/-! names, constants -/
def vwO (i : Nat) (o : O) : R := match o with
  | .p d => .p d
  | o => .sl i o
def rVar (i : Nat) : AE := fun g Q _ => match g[i]? with
  | some (some o) => Q (vwO i o) g
  | _ => False
def rC (d : D) : AE := fun g Q _ => Q (.p d) g
section
variable {X : Cx} {W : WX} {pos : Pos}
theorem Out.one {K : PySem.W.Frag} {Z : ZS} {H : Hp} {σ : L2.St} {g : Gm} {w : Ow} {d : D} {v : V} (S : SO K Z H σ g w) (h : PD K Z H v d) : Out K [] Z H g w σ Z H g w [.p d] [v] [] :=
  ⟨S, .refl, .p h .nil, List.nodup_nil, fun _ m => absurd m (by simp), fun _ m => absurd m (by simp), fun _ m => absurd m (by simp), fun _ m => absurd m (by simp)⟩
theorem je_c {e : Expr} {v : V} {d : D} (h : PE X e (tC v)) (hd : ∀ Z H, PD X.K Z H v d) : JE X W [] e (rC d) :=
  ⟨PEi h fun σ H Q ⟨Z, g, w, q, E, S, h, ok, ex⟩ => ok _ v Z H g w [] h (Out.one S (hd Z H))⟩
theorem je_int {i j} : JE X W [] (.Constant (.int i) j pos) (rC (.int i)) := je_c pe_int fun _ _ => .int i
theorem je_bl {b j} : JE X W [] (.Constant (.bool b) j pos) (rC (.bool b)) := je_c pe_bl fun _ _ => .bl b
theorem je_non {j} : JE X W [] (.Constant .none j pos) (rC .none) := je_c pe_non fun _ _ => .non
theorem je_str {x j} : JE X W [] (.Constant (.str x) j pos) (rC (.str x)) := je_c pe_str fun _ _ => .str x
theorem je_glob {x : Str} {v : V} {u : Value} {d : D} (hg : Gl X x) (hm : X.mg x = some u) (r : RelV v u) (hd : ∀ Z H, PD X.K Z H v d) (hdb : (x == ("__debug__" : Str)) = false := by decide) : JE X W [] (.Name x pos) (rC d) :=
  je_c (pe_glob hg hm r hdb) hd
theorem je_var (i : Nat) {x : Str} (hN : X.N[i]? = some x := by rfl) (hv : Vis X.env.scope x := by first | exact Or.inl rfl | exact Or.inr (Or.inl rfl) | exact Or.inr (Or.inr rfl)) (hd : (x == ("__debug__" : Str)) = false := by decide)
    (hcd : (x == ("__classdict__" : Str)) = false := by decide) : JE X W [] (.Name x pos) (rVar i) := by
  refine ⟨PEi (pe_var hN hv hd hcd) fun σ H Q ⟨Z, g, w, q, E, S, h, ok, ex⟩ => ?_⟩
  unfold rVar at h
  cases e : g[i]? with
  | none => rw [e] at h; exact h.elim
  | some oo =>
    cases oo with
    | none => rw [e] at h; exact h.elim
    | some o =>
      rw [e] at h
      obtain ⟨v, e1, ro⟩ := S.rep i o e
      refine ⟨v, e1, ?_⟩
      by_cases hp : ∃ d, o = .p d
      · obtain ⟨d, rfl⟩ := hp
        exact ok _ v Z H g w [] h (Out.one S ro.p_inv.1)
      · have ev : vwO i o = .sl i o := by
          cases o with
          | p d => exact absurd ⟨d, rfl⟩ hp
          | _ => rfl
        have h : q (vwO i o) g := h
        rw [ev] at h
        refine ok _ v Z H g w [] h ⟨S, .refl, .sl e1 e ro .nil, List.nodup_nil, fun _ m => absurd m (by simp), fun _ m => absurd m (by simp), fun _ m => absurd m (by simp), fun _ m => absurd m (by simp)⟩
end
end VL

namespace VL
open PySem PySem.Spec L2

/-! ### 7. The operations -/
section
variable {K : PySem.W.Frag} {Z : ZS} {H : Hp} {v : V}
theorem PDt.int_i {i : Int} (h : PDt K Z H v (.int i)) : v = .int i := by
  have h : PD K Z H v (.int i) := h
  cases h; rfl
theorem PDt.str_i {x : Str} (h : PDt K Z H v (.str x)) : v = .str x := by
  have h : PD K Z H v (.str x) := h
  cases h; rfl
theorem PDt.bl_i {b : Bool} (h : PDt K Z H v (.bool b)) : v = .bl b := by
  have h : PD K Z H v (.bool b) := h
  cases h; rfl
theorem PDt.non_i (h : PDt K Z H v .none) : v = .non := by
  have h : PD K Z H v .none := h
  cases h; rfl
theorem PD.tup_i {ds : List D} (h : PD K Z H v (.tuple ds)) : ∃ a xs, v = .ref a ∧ SqT K H a xs ∧ PDs K Z H xs ds := by
  cases h with
  | tup c r => exact ⟨_, _, rfl, c.sq, r⟩
theorem PD.lst_i {ds : List D} (h : PD K Z H v (.list ds)) : ∃ a xs, v = .ref a ∧ H a = some (.lst xs) ∧ PDs K Z H xs ds := by
  cases h with
  | lst z h r => exact ⟨_, _, rfl, h, r⟩
theorem PDu.int_i {i : Int} (h : PDu K Z H v (.int i)) : v = .int i := PDt.int_i h
theorem PDu.str_i {x : Str} (h : PDu K Z H v (.str x)) : v = .str x := PDt.str_i h
theorem PDu.bl_i {b : Bool} (h : PDu K Z H v (.bool b)) : v = .bl b := PDt.bl_i h
theorem all2_2 {P : V → D → Prop} {vs : List V} {d e : D} (h : All2 P vs [d, e]) : ∃ x y, vs = [x, y] ∧ P x d ∧ P y e := by
  cases h with
  | cons h1 h =>
    cases h with
    | cons h2 h => cases h; exact ⟨_, _, rfl, h1, h2⟩
theorem all2_1 {P : V → D → Prop} {vs : List V} {d : D} (h : All2 P vs [d]) : ∃ x, vs = [x] ∧ P x d := by
  cases h with
  | cons h1 h => cases h; exact ⟨_, rfl, h1⟩
theorem all2_3 {P : V → D → Prop} {vs : List V} {d e c : D} (h : All2 P vs [d, e, c]) : ∃ x y z, vs = [x, y, z] ∧ P x d ∧ P y e ∧ P z c := by
  cases h with
  | cons h1 h =>
    cases h with
    | cons h2 h =>
      cases h with
      | cons h3 h => cases h; exact ⟨_, _, _, rfl, h1, h2, h3⟩
theorem all2_0 {P : V → D → Prop} {vs : List V} (h : All2 P vs []) : vs = [] := by cases h; rfl
end
theorem OpR_or {X : Cx} {f : Value → Value → Sem Value} {r r' : R2} (h : OpR X f r) (h' : OpR X f r') : OpR X f (fun x y H Q => r x y H Q ∨ r' x y H Q) := by
  intro pins s σ H x y v u Q I rx ry q
  exact q.elim (h pins s σ H x y v u Q I rx ry) (h' pins s σ H x y v u Q I rx ry)
theorem CallR_or {X : Cx} {f : Value} {r r' : List V → Hp → VK → Prop} (h : CallR X f r) (h' : CallR X f r') : CallR X f (fun xs H Q => r xs H Q ∨ r' xs H Q) := by
  intro pins s σ H xs us Q I rx q
  exact q.elim (h pins s σ H xs us Q I rx) (h' pins s σ H xs us Q I rx)

def aAdd : Aop
  | [.int i, .int j], k => k (.p (.int (i + j)))
  | [.str x, .str y], k => x.length + y.length ≤ sizeLine ∧ k (.p (.str (x ++ y)))
  | [.list xs, .list ys], k => xs.length + ys.length ≤ sizeLine ∧ k (.ow (.ls (xs ++ ys)))
  | [.tuple xs, .tuple ys], k => xs.length + ys.length ≤ sizeLine ∧ k (.p (.tuple (xs ++ ys)))
  | _, _ => False
def rAddX (K : PySem.W.Frag) : R2 := fun x y H Q => rI0 (fun i j => .int (i + j)) x y H Q ∨ (∃ i j, x = .str i ∧ y = .str j ∧ i.length + j.length ≤ sizeLine ∧ Q (.str (i ++ j)) H) ∨ rCat x y H Q ∨ rCatA K x y H Q
theorem op_addX {X : Cx} : OpR X (binaryOp .Add) (rAddX X.K) := OpR_or op_add (OpR_or op_add_str (OpR_or op_cat op_catA))
theorem ok_add {K : PySem.W.Frag} : POk K (tw (rAddX K)) aAdd := by
  intro Z H vs ds k Q zl h2 ha ret
  unfold aAdd at ha
  split at ha
  · obtain ⟨x, y, rfl, h1, h2⟩ := all2_2 h2
    rw [h1.int_i, h2.int_i]
    exact ⟨_, _, rfl, .inl ⟨_, _, rfl, rfl, ret _ _ Z H [] ha (Ext.refl zl) (.p (.int _))⟩⟩
  · obtain ⟨x, y, rfl, h1, h2⟩ := all2_2 h2
    rw [h1.str_i, h2.str_i]
    exact ⟨_, _, rfl, .inr (.inl ⟨_, _, rfl, rfl, ha.1, ret _ _ Z H [] ha.2 (Ext.refl zl) (.p (.str _))⟩)⟩
  · obtain ⟨x, y, rfl, ⟨a, xs, rfl, hx, rx⟩, ⟨b, ys, rfl, hy, ry⟩⟩ := all2_2 h2
    refine ⟨_, _, rfl, .inr (.inr (.inl ⟨_, _, xs, ys, rfl, rfl, hx, hy, by rw [rx.length, ry.length]; exact ha.1, fun p hp => ?_⟩))⟩
    exact ret _ _ Z _ [p] ha.2 (Ext.own zl hp) (.ow (.ls upd_same ((rx.append ry).kp (Kp.own zl hp))))
  · rename_i ds1 ds2
    obtain ⟨x, y, rfl, hx0, hy0⟩ := all2_2 h2
    obtain ⟨a, xs, rfl, hx, rx⟩ := PD.tup_i hx0
    obtain ⟨b, ys, rfl, hy, ry⟩ := PD.tup_i hy0
    refine ⟨_, _, rfl, .inr (.inr (.inr ⟨_, _, xs, ys, rfl, rfl, hx, hy, by rw [rx.length, ry.length]; exact ha.1, fun e => ?_, fun e e2 => ?_, fun e e2 p hp => ?_⟩))⟩
    · have e1 : ds1 = [] := List.eq_nil_of_length_eq_zero (by rw [← rx.length, e]; rfl)
      subst e1
      exact ret _ _ Z H [] ha.2 (Ext.refl zl) (.p hy0)
    · have e1 : ds2 = [] := List.eq_nil_of_length_eq_zero (by rw [← ry.length, e2]; rfl)
      subst e1
      have ha2 : k (.p (.tuple (ds1 ++ []))) := ha.2
      rw [List.append_nil] at ha2
      exact ret _ _ Z H [] ha2 (Ext.refl zl) (.p hx0)
    · exact ret _ _ _ _ [] ha.2 (Ext.new zl hp) (.p (.tup (.inl ⟨.inr rfl, .inl upd_same⟩) ((rx.append ry).kp (Kp.new zl hp))))
  · exact ha.elim
/-! ints -/
def aSub : Aop
  | [.int i, .int j], k => k (.p (.int (i - j)))
  | _, _ => False
def aMod : Aop
  | [.int i, .int j], k => 0 < j ∧ k (.p (.int (i % j)))
  | _, _ => False
def aDiv : Aop
  | [.int i, .int j], k => CDiv i j ∧ k (.p (.int (i / j)))
  | _, _ => False
def aPow : Aop
  | [.int i, .int j], k => CPow i j ∧ k (.p (.int (i ^ j.toNat)))
  | _, _ => False
def aMulI : Aop
  | [.int i, .int j], k => CMul i j ∧ k (.p (.int (i * j)))
  | _, _ => False
theorem ok_i0 {K : PySem.W.Frag} {f : Int → Int → Int} {a : Aop} (ha : ∀ ds k, a ds k → ∃ i j, ds = [.int i, .int j] ∧ k (.p (.int (f i j)))) : POk K (tw (rI0 fun i j => .int (f i j))) a := by
  intro Z H vs ds k Q zl h2 h ret
  obtain ⟨i, j, rfl, hk⟩ := ha ds k h
  obtain ⟨x, y, rfl, h1, h2⟩ := all2_2 h2
  rw [h1.int_i, h2.int_i]
  exact ⟨_, _, rfl, _, _, rfl, rfl, ret _ _ Z H [] hk (Ext.refl zl) (.p (.int _))⟩
theorem ok_i {K : PySem.W.Frag} {C : Int → Int → Prop} {f : Int → Int → Int} {a : Aop} (ha : ∀ ds k, a ds k → ∃ i j, ds = [.int i, .int j] ∧ C i j ∧ k (.p (.int (f i j)))) : POk K (tw (rI C fun i j => .int (f i j))) a := by
  intro Z H vs ds k Q zl h2 h ret
  obtain ⟨i, j, rfl, hc, hk⟩ := ha ds k h
  obtain ⟨x, y, rfl, h1, h2⟩ := all2_2 h2
  rw [h1.int_i, h2.int_i]
  exact ⟨_, _, rfl, _, _, rfl, rfl, hc, ret _ _ Z H [] hk (Ext.refl zl) (.p (.int _))⟩
theorem ok_sub {K : PySem.W.Frag} : POk K (tw (rI0 fun i j => .int (i - j))) aSub := ok_i0 fun ds k h => by
  unfold aSub at h
  split at h
  · exact ⟨_, _, rfl, h⟩
  · exact h.elim
theorem ok_mod {K : PySem.W.Frag} : POk K (tw (rI (fun _ j => 0 < j) fun i j => .int (i % j))) aMod := ok_i fun ds k h => by
  unfold aMod at h
  split at h
  · exact ⟨_, _, rfl, h⟩
  · exact h.elim
theorem ok_div {K : PySem.W.Frag} : POk K (tw (rI CDiv fun i j => .int (i / j))) aDiv := ok_i fun ds k h => by
  unfold aDiv at h
  split at h
  · exact ⟨_, _, rfl, h⟩
  · exact h.elim
theorem ok_pow {K : PySem.W.Frag} : POk K (tw (rI CPow fun i j => .int (i ^ j.toNat))) aPow := ok_i fun ds k h => by
  unfold aPow at h
  split at h
  · exact ⟨_, _, rfl, h⟩
  · exact h.elim
theorem ok_mulI {K : PySem.W.Frag} : POk K (tw (rI CMul fun i j => .int (i * j))) aMulI := ok_i fun ds k h => by
  unfold aMulI at h
  split at h
  · exact ⟨_, _, rfl, h⟩
  · exact h.elim
/-! comparisons -/
mutual
/-- no dict within -/
def nd : D → Bool
  | .dict _ => false
  | .list xs => nds xs
  | .tuple xs => nds xs
  | _ => true
def nds : List D → Bool
  | [] => true
  | x :: xs => nd x && nds xs
end
section
variable {K : PySem.W.Frag} {Z : ZS} {H : Hp}
mutual
theorem PD.dp : ∀ {v : V} {d : D}, PD K Z H v d → nd d = true → Dp K H v d
  | _, _, .non, _ => .non
  | _, _, .bl b, _ => .bl b
  | _, _, .int i, _ => .int i
  | _, _, .str x, _ => .str x
  | _, _, .lst z h r, e => .lst (.of h) (PDs.dp r (by simpa [nd] using e))
  | _, _, .tup c r, e => .tup c.sq (PDs.dp r (by simpa [nd] using e))
  | _, _, .dct _ _ _ _, e => by simp [nd] at e
theorem PDs.dp : ∀ {vs : List V} {ds : List D}, PDs K Z H vs ds → nds ds = true → DpAll K H vs ds
  | _, _, .nil, _ => .nil
  | _, _, .cons h r, e => by
    simp only [nds, Bool.and_eq_true] at e
    exact .cons (PD.dp h e.1) (PDs.dp r e.2)
end
theorem PDt.dp {v : V} {d : D} (h : PDt K Z H v d) (e : nd d = true) : Dp K H v d := by
  cases d with
  | list ds =>
    obtain ⟨a, xs, rfl, h, r⟩ := h
    exact .lst (.of h) (r.dp (by simpa [nd] using e))
  | dict es => simp [nd] at e
  | none => exact PD.dp h e
  | bool b => exact PD.dp h e
  | int i => exact PD.dp h e
  | str x => exact PD.dp h e
  | tuple xs => exact PD.dp h e
end
/-- plain data that may be compared -/
def okD (d : D) : Bool := nd d && SeqAt.shaped d
/-- == of two plain things: at once where both are single, else as data -/
def eqD2 : D → D → (Bool → Prop) → Prop
  | .str x, .str y, k => k (decide (x = y))
  | .int x, .int y, k => k (decide (x = y))
  | .bool x, .bool y, k => k (decide (x = y))
  | .none, .none, k => k true
  | .none, .str _, k => k false
  | .none, .int _, k => k false
  | .none, .bool _, k => k false
  | .str _, .none, k => k false
  | .int _, .none, k => k false
  | .bool _, .none, k => k false
  | .int _, .str _, k => k false
  | .str _, .int _, k => k false
  | .bool _, .str _, k => k false
  | .str _, .bool _, k => k false
  | d, e, k => okD d = true ∧ okD e = true ∧ k (PyData.eqv d e)
def aEq (f : Bool → Bool) : Aop
  | [d, e], k => eqD2 d e fun b => k (.p (.bool (f b)))
  | _, _ => False
theorem okD_i {d : D} (h : okD d = true) : nd d = true ∧ SeqAt.shaped d = true := by simpa [okD] using h
theorem eqD2_i {K : PySem.W.Frag} {Z : ZS} {H : Hp} {v u : V} {d e : D} {k : Bool → Prop} (h : eqD2 d e k) (hv : PDt K Z H v d) (hu : PDt K Z H u e) :
    (scal v u = true ∧ k (decide (v = u))) ∨ (okD d = true ∧ okD e = true ∧ k (PyData.eqv d e)) := by
  unfold eqD2 at h
  split at h
  · rw [hv.str_i, hu.str_i]; exact .inl ⟨rfl, by simpa using h⟩
  · rw [hv.int_i, hu.int_i]; exact .inl ⟨rfl, by simpa using h⟩
  · rw [hv.bl_i, hu.bl_i]; exact .inl ⟨rfl, by simpa using h⟩
  · rw [hv.non_i, hu.non_i]; exact .inl ⟨rfl, by simpa using h⟩
  · rw [hv.non_i, hu.str_i]; exact .inl ⟨rfl, by simpa using h⟩
  · rw [hv.non_i, hu.int_i]; exact .inl ⟨rfl, by simpa using h⟩
  · rw [hv.non_i, hu.bl_i]; exact .inl ⟨rfl, by simpa using h⟩
  · rw [hv.str_i, hu.non_i]; exact .inl ⟨rfl, by simpa using h⟩
  · rw [hv.int_i, hu.non_i]; exact .inl ⟨rfl, by simpa using h⟩
  · rw [hv.bl_i, hu.non_i]; exact .inl ⟨rfl, by simpa using h⟩
  · rw [hv.int_i, hu.str_i]; exact .inl ⟨rfl, by simpa using h⟩
  · rw [hv.str_i, hu.int_i]; exact .inl ⟨rfl, by simpa using h⟩
  · rw [hv.bl_i, hu.str_i]; exact .inl ⟨rfl, by simpa using h⟩
  · rw [hv.str_i, hu.bl_i]; exact .inl ⟨rfl, by simpa using h⟩
  · exact .inr h
def rEqX (K : PySem.W.Frag) : R2 := fun x y H Q => rEq x y H Q ∨ rEqD K x y H Q
def rNeX (K : PySem.W.Frag) : R2 := fun x y H Q => rNe x y H Q ∨ rNeD K x y H Q
theorem op_eqX {X : Cx} (hu : X.A.units + 64 < cLine) : OpR X (compareOp .Eq) (rEqX X.K) := OpR_or op_eq (op_eqD hu)
theorem op_neX {X : Cx} (hu : X.A.units + 64 < cLine) : OpR X (compareOp .NotEq) (rNeX X.K) := OpR_or op_ne (op_neD hu)
theorem ok_eq {K : PySem.W.Frag} : POk K (tw (rEqX K)) (aEq id) := by
  intro Z H vs ds k Q zl h2 h ret
  unfold aEq at h
  split at h
  · obtain ⟨x, y, rfl, h1, h2⟩ := all2_2 h2
    rcases eqD2_i h h1 h2 with ⟨s, q⟩ | ⟨o1, o2, q⟩
    · exact ⟨_, _, rfl, .inl ⟨s, ret _ _ Z H [] q (Ext.refl zl) (.p (.bl _))⟩⟩
    · exact ⟨_, _, rfl, .inr ⟨_, _, h1.dp (okD_i o1).1, h2.dp (okD_i o2).1, (okD_i o1).2, (okD_i o2).2, ret _ _ Z H [] q (Ext.refl zl) (.p (.bl _))⟩⟩
  · exact h.elim
theorem ok_ne {K : PySem.W.Frag} : POk K (tw (rNeX K)) (aEq not) := by
  intro Z H vs ds k Q zl h2 h ret
  unfold aEq at h
  split at h
  · obtain ⟨x, y, rfl, h1, h2⟩ := all2_2 h2
    rcases eqD2_i h h1 h2 with ⟨s, q⟩ | ⟨o1, o2, q⟩
    · exact ⟨_, _, rfl, .inl ⟨s, ret _ _ Z H [] q (Ext.refl zl) (.p (.bl _))⟩⟩
    · exact ⟨_, _, rfl, .inr ⟨_, _, h1.dp (okD_i o1).1, h2.dp (okD_i o2).1, (okD_i o1).2, (okD_i o2).2, ret _ _ Z H [] q (Ext.refl zl) (.p (.bl _))⟩⟩
  · exact h.elim
def aCmpI (f : Int → Int → Bool) : Aop
  | [.int i, .int j], k => k (.p (.bool (f i j)))
  | _, _ => False
theorem ok_cmpI {K : PySem.W.Frag} {f : Int → Int → Bool} : POk K (tw (rI0 fun i j => .bl (f i j))) (aCmpI f) := by
  intro Z H vs ds k Q zl h2 h ret
  unfold aCmpI at h
  split at h
  · obtain ⟨x, y, rfl, h1, h2⟩ := all2_2 h2
    rw [h1.int_i, h2.int_i]
    exact ⟨_, _, rfl, _, _, rfl, rfl, ret _ _ Z H [] h (Ext.refl zl) (.p (.bl _))⟩
  · exact h.elim
def aIsN (f : Bool → Bool) : Aop
  | [d, .none], k => k (.p (.bool (f (match d with | .none => true | _ => false))))
  | _, _ => False
theorem ok_isN {K : PySem.W.Frag} : POk K (tw (fun x y H Q => y = .non ∧ Q (.bl (decide (x = .non))) H)) (aIsN id) := by
  intro Z H vs ds k Q zl h2 h ret
  unfold aIsN at h
  split at h
  · obtain ⟨x, y, rfl, h1, h2⟩ := all2_2 h2
    refine ⟨_, _, rfl, h2.non_i, ?_⟩
    refine ret _ _ Z H [] h (Ext.refl zl) (.p ?_)
    have e : decide (x = .non) = id (match (‹D› : D) with | .none => true | _ => false) := by
      rename_i d _
      cases d with
      | none => rw [h1.non_i]; rfl
      | bool b => rw [h1.bl_i]; rfl
      | int i => rw [h1.int_i]; rfl
      | str z => rw [h1.str_i]; rfl
      | list xs => obtain ⟨a, ys, rfl, _, _⟩ := h1; rfl
      | tuple xs => obtain ⟨a, ys, rfl, _, _⟩ := PD.tup_i h1; rfl
      | dict xs => obtain ⟨a, ys, rfl, _, _⟩ := h1; rfl
    rw [e]
    exact .bl _
  · exact h.elim
theorem ok_notN {K : PySem.W.Frag} : POk K (tw (fun x y H Q => y = .non ∧ Q (.bl (!decide (x = .non))) H)) (aIsN not) := by
  intro Z H vs ds k Q zl h2 h ret
  unfold aIsN at h
  split at h
  · obtain ⟨x, y, rfl, h1, h2⟩ := all2_2 h2
    refine ⟨_, _, rfl, h2.non_i, ?_⟩
    refine ret _ _ Z H [] h (Ext.refl zl) (.p ?_)
    have e : (!decide (x = .non)) = not (match (‹D› : D) with | .none => true | _ => false) := by
      rename_i d _
      cases d with
      | none => rw [h1.non_i]; rfl
      | bool b => rw [h1.bl_i]; rfl
      | int i => rw [h1.int_i]; rfl
      | str z => rw [h1.str_i]; rfl
      | list xs => obtain ⟨a, ys, rfl, _, _⟩ := h1; rfl
      | tuple xs => obtain ⟨a, ys, rfl, _, _⟩ := PD.tup_i h1; rfl
      | dict xs => obtain ⟨a, ys, rfl, _, _⟩ := h1; rfl
    rw [e]
    exact .bl _
  · exact h.elim
/-! in -/
/-- a sign in a text; flat data in a tuple; any data in a list -/
def isFlat : D → Bool
  | .none => true
  | .bool _ => true
  | .int _ => true
  | .str _ => true
  | _ => false
def inOk (d : D) (ds : List D) : Bool := (isFlat d && ds.all isFlat) || (okD d && okD (.list ds))
theorem inOk_i {d : D} {ds : List D} (h : inOk d ds = true) : (isFlat d = true ∧ ds.all isFlat = true) ∨ (okD d = true ∧ okD (.list ds) = true) := by
  simpa only [inOk, Bool.or_eq_true, Bool.and_eq_true] using h
def aIn (f : Bool → Bool) : Aop
  | [.str x, .str y], k => x.length = 1 ∧ k (.p (.bool (f (decide (x.cps.getD 0 0 ∈ y.cps.toList)))))
  | [d, .list ds], k => inOk d ds = true ∧ k (.p (.bool (f (ds.any fun z => PyData.eqv z d))))
  | [d, .tuple ds], k => isFlat d = true ∧ ds.all isFlat = true ∧ k (.p (.bool (f (ds.any fun z => PyData.eqv z d))))
  | _, _ => False
theorem str1 {x : Str} (h : x.length = 1) : x = ⟨#[x.cps.getD 0 0]⟩ := by
  obtain ⟨⟨l⟩⟩ := x
  cases l with
  | nil => simp [Str.length] at h
  | cons a t =>
    cases t with
    | nil => rfl
    | cons b t => simp [Str.length] at h
/-- the value of single data -/
def flV : D → V
  | .bool b => .bl b
  | .int i => .int i
  | .str x => .str x
  | _ => .non
theorem PD.fl {K : PySem.W.Frag} {Z : ZS} {H : Hp} {v : V} {d : D} (h : PD K Z H v d) (e : isFlat d = true) : v = flV d := by
  cases h with
  | non => rfl
  | bl b => rfl
  | int i => rfl
  | str x => rfl
  | lst _ _ _ => cases e
  | tup _ _ => cases e
  | dct _ _ _ _ => cases e
theorem PDt.fl {K : PySem.W.Frag} {Z : ZS} {H : Hp} {v : V} {d : D} (h : PDt K Z H v d) (e : isFlat d = true) : v = flV d := by
  cases d with
  | none => exact PDt.non_i h
  | bool b => exact PDt.bl_i h
  | int b => exact PDt.int_i h
  | str b => exact PDt.str_i h
  | list _ => cases e
  | tuple _ => cases e
  | dict _ => cases e
theorem flV_flat {d : D} (e : isFlat d = true) : flatV (flV d) = true := by
  cases d with
  | list _ => cases e
  | tuple _ => cases e
  | dict _ => cases e
  | _ => rfl
theorem flV_eqv {d c : D} (e : isFlat d = true) (e' : isFlat c = true) : eqV (flV d) (flV c) = PyData.eqv d c := by
  cases d with
  | list _ => cases e
  | tuple _ => cases e
  | dict _ => cases e
  | none => cases c <;> first | (simp [flV, eqV, PyData.eqv]; done) | cases e'
  | bool b => cases c <;> first | (simp [flV, eqV, PyData.eqv]; done) | cases e'
  | int b => cases c <;> first | (simp [flV, eqV, PyData.eqv]; done) | cases e'
  | str b => cases c <;> first | (simp [flV, eqV, PyData.eqv]; done) | cases e'
theorem PDs.fl {K : PySem.W.Frag} {Z : ZS} {H : Hp} : ∀ {vs : List V} {ds : List D}, PDs K Z H vs ds → ds.all isFlat = true → vs = ds.map flV
  | _, _, .nil, _ => rfl
  | _, _, .cons h r, e => by
    simp only [List.all_cons, Bool.and_eq_true] at e
    rw [List.map_cons, ← PDs.fl r e.2, h.fl e.1]
theorem inV_any {d : D} (e : isFlat d = true) : ∀ {ds : List D}, ds.all isFlat = true → inV (flV d) (ds.map flV) = ds.any fun z => PyData.eqv z d
  | [], _ => rfl
  | c :: cs, h => by
    simp only [List.all_cons, Bool.and_eq_true] at h
    have ih := inV_any e h.2
    unfold inV at ih ⊢
    rw [List.map_cons, List.any_cons, List.any_cons, ih, flV_eqv h.1 e]
theorem all_flV : ∀ {ds : List D}, ds.all isFlat = true → (ds.map flV).all flatV = true
  | [], _ => rfl
  | c :: cs, h => by
    simp only [List.all_cons, Bool.and_eq_true] at h
    rw [List.map_cons, List.all_cons, flV_flat h.1, all_flV h.2]
    rfl
def rInX (K : PySem.W.Frag) : R2 := fun x y H Q => (∃ (c : Nat) (z : Str), x = .str ⟨#[c]⟩ ∧ y = .str z ∧ Q (.bl (decide (c ∈ z.cps.toList))) H) ∨ rInD K x y H Q ∨ rIn K false x y H Q
def rNiX (K : PySem.W.Frag) : R2 := fun x y H Q => (∃ (c : Nat) (z : Str), x = .str ⟨#[c]⟩ ∧ y = .str z ∧ Q (.bl (!decide (c ∈ z.cps.toList))) H) ∨ rNotInD K x y H Q ∨ rIn K true x y H Q
theorem op_inX {X : Cx} (hu : X.A.units + 65 < cLine) : OpR X (compareOp .In) (rInX X.K) := OpR_or op_in_sign (OpR_or (op_inD hu) op_in_seq)
theorem op_niX {X : Cx} (hu : X.A.units + 65 < cLine) : OpR X (compareOp .NotIn) (rNiX X.K) := OpR_or op_notIn_sign (OpR_or (op_notInD hu) op_notIn_seq)
theorem ok_in {K : PySem.W.Frag} : POk K (tw (rInX K)) (aIn id) := by
  intro Z H vs ds k Q zl h2 h ret
  unfold aIn at h
  split at h
  · obtain ⟨x, y, rfl, h1, h2⟩ := all2_2 h2
    rw [h1.str_i, h2.str_i]
    exact ⟨_, _, rfl, .inl ⟨_, _, congrArg V.str (str1 h.1), rfl, ret _ _ Z H [] h.2 (Ext.refl zl) (.p (.bl _))⟩⟩
  · obtain ⟨x, y, rfl, h1, h2⟩ := all2_2 h2
    rcases inOk_i h.1 with z | z
    · obtain ⟨a, xs, rfl, hx, rx⟩ := h2
      have e1 := h1.fl z.1
      have e2 := rx.fl z.2
      subst e1 e2
      refine ⟨_, _, rfl, .inr (.inr ⟨_, _, rfl, .inl (SqL.of hx), flV_flat z.1, all_flV z.2, ?_⟩)⟩
      rw [if_neg (by decide), inV_any z.1 z.2]
      exact ret _ _ Z H [] h.2 (Ext.refl zl) (.p (.bl _))
    · exact ⟨_, _, rfl, .inr (.inl ⟨_, _, h1.dp (okD_i z.1).1, h2.dp (okD_i z.2).1, (okD_i z.1).2, (okD_i z.2).2, ret _ _ Z H [] h.2 (Ext.refl zl) (.p (.bl _))⟩)⟩
  · obtain ⟨x, y, rfl, h1, h2⟩ := all2_2 h2
    obtain ⟨a, xs, rfl, hx, rx⟩ := PD.tup_i h2
    have e1 := h1.fl h.1
    have e2 := rx.fl h.2.1
    subst e1 e2
    refine ⟨_, _, rfl, .inr (.inr ⟨_, _, rfl, .inr hx, flV_flat h.1, all_flV h.2.1, ?_⟩)⟩
    rw [if_neg (by decide), inV_any h.1 h.2.1]
    exact ret _ _ Z H [] h.2.2 (Ext.refl zl) (.p (.bl _))
  · exact h.elim
theorem ok_ni {K : PySem.W.Frag} : POk K (tw (rNiX K)) (aIn not) := by
  intro Z H vs ds k Q zl h2 h ret
  unfold aIn at h
  split at h
  · obtain ⟨x, y, rfl, h1, h2⟩ := all2_2 h2
    rw [h1.str_i, h2.str_i]
    exact ⟨_, _, rfl, .inl ⟨_, _, congrArg V.str (str1 h.1), rfl, ret _ _ Z H [] h.2 (Ext.refl zl) (.p (.bl _))⟩⟩
  · obtain ⟨x, y, rfl, h1, h2⟩ := all2_2 h2
    rcases inOk_i h.1 with z | z
    · obtain ⟨a, xs, rfl, hx, rx⟩ := h2
      have e1 := h1.fl z.1
      have e2 := rx.fl z.2
      subst e1 e2
      refine ⟨_, _, rfl, .inr (.inr ⟨_, _, rfl, .inl (SqL.of hx), flV_flat z.1, all_flV z.2, ?_⟩)⟩
      rw [if_pos (by decide), inV_any z.1 z.2]
      exact ret _ _ Z H [] h.2 (Ext.refl zl) (.p (.bl _))
    · exact ⟨_, _, rfl, .inr (.inl ⟨_, _, h1.dp (okD_i z.1).1, h2.dp (okD_i z.2).1, (okD_i z.1).2, (okD_i z.2).2, ret _ _ Z H [] h.2 (Ext.refl zl) (.p (.bl _))⟩)⟩
  · obtain ⟨x, y, rfl, h1, h2⟩ := all2_2 h2
    obtain ⟨a, xs, rfl, hx, rx⟩ := PD.tup_i h2
    have e1 := h1.fl h.1
    have e2 := rx.fl h.2.1
    subst e1 e2
    refine ⟨_, _, rfl, .inr (.inr ⟨_, _, rfl, .inr hx, flV_flat h.1, all_flV h.2.1, ?_⟩)⟩
    rw [if_pos (by decide), inV_any h.1 h.2.1]
    exact ret _ _ Z H [] h.2.2 (Ext.refl zl) (.p (.bl _))
  · exact h.elim
/-! len, places, slices -/
def aLen : Aop
  | [.str x], k => x.length ≤ sizeLine ∧ k (.p (.int x.length))
  | [.list xs], k => k (.p (.int xs.length))
  | [.tuple xs], k => k (.p (.int xs.length))
  | _, _ => False
theorem ok_len {K : PySem.W.Frag} : POu K (fun xs H Q => ∃ x n, xs = [x] ∧ LenV K x H n ∧ Q (.int n) H) aLen := by
  intro Z H vs ds k Q zl h2 h ret
  unfold aLen at h
  split at h
  · obtain ⟨x, rfl, h1⟩ := all2_1 h2
    rw [h1.str_i]
    exact ⟨_, _, rfl, ⟨h.1, rfl⟩, ret _ _ Z H [] h.2 (Ext.refl zl) (.p (.int _))⟩
  · obtain ⟨x, rfl, ⟨a, xs, rfl, hx, rx⟩⟩ := all2_1 h2
    refine ⟨_, xs.length, rfl, .inl ⟨xs, hx, rfl⟩, ?_⟩
    rw [rx.length]
    exact ret _ _ Z H [] h (Ext.refl zl) (.p (.int _))
  · obtain ⟨x, rfl, h1⟩ := all2_1 h2
    obtain ⟨a, xs, rfl, hx, rx⟩ := PD.tup_i h1
    refine ⟨_, xs.length, rfl, .inr ⟨xs, hx, rfl⟩, ?_⟩
    rw [rx.length]
    exact ret _ _ Z H [] h (Ext.refl zl) (.p (.int _))
  · exact h.elim
theorem PDs.atI {K : PySem.W.Frag} {Z : ZS} {H : Hp} {vs : List V} {ds : List D} {i : Int} {d : D} (r : PDs K Z H vs ds) (e : atI ds i = some d) : ∃ v, L2.atI vs i = some v ∧ PD K Z H v d := by
  unfold L2.atI at e ⊢
  rw [r.length]
  obtain ⟨j, e1, e2⟩ := Option.bind_eq_some_iff.mp e
  rw [e1]
  exact r.get e2
def aIx : Aop
  | [.list xs, .int i], k => ∃ d, atI xs i = some d ∧ k (.p d)
  | [.tuple xs, .int i], k => ∃ d, atI xs i = some d ∧ k (.p d)
  | [.str x, .int i], k => x.length ≤ sizeLine ∧ ∃ c, atI x.cps.toList i = some c ∧ k (.p (.str ⟨#[c]⟩))
  | _, _ => False
theorem ok_ix {K : PySem.W.Frag} : POu K (tw (rIx K)) aIx := by
  intro Z H vs ds k Q zl h2 h ret
  unfold aIx at h
  split at h
  · obtain ⟨x, y, rfl, ⟨a, xs, rfl, hx, rx⟩, hi⟩ := all2_2 h2
    rw [hi.int_i]
    obtain ⟨d, e, hk⟩ := h
    obtain ⟨v, ev, pv⟩ := rx.atI e
    exact ⟨_, _, rfl, .inl ⟨_, _, _, _, rfl, rfl, hx, ev, ret _ _ Z H [] hk (Ext.refl zl) (.p pv)⟩⟩
  · obtain ⟨x, y, rfl, h1, hi⟩ := all2_2 h2
    obtain ⟨a, xs, rfl, hx, rx⟩ := PD.tup_i h1
    rw [hi.int_i]
    obtain ⟨d, e, hk⟩ := h
    obtain ⟨v, ev, pv⟩ := rx.atI e
    exact ⟨_, _, rfl, .inr (.inl ⟨_, _, _, _, rfl, rfl, hx, ev, ret _ _ Z H [] hk (Ext.refl zl) (.p pv)⟩)⟩
  · obtain ⟨x, y, rfl, h1, h2⟩ := all2_2 h2
    rw [h1.str_i, h2.int_i]
    obtain ⟨hz, c, e, hk⟩ := h
    exact ⟨_, _, rfl, .inr (.inr ⟨_, _, _, rfl, rfl, hz, e, ret _ _ Z H [] hk (Ext.refl zl) (.p (.str _))⟩)⟩
  · exact h.elim
end VL

namespace VL
open PySem PySem.Spec L2

/-! ### 8. Tests -/
abbrev AT := Gm → (Bool → Gm → Prop) → EX → Prop
def liftT (K : PySem.W.Frag) (W : WX) (T : List Nat) (t : AT) : TT := fun σ H Q => ∃ Z g w q E, SO K Z H σ g w ∧ t g q E ∧
  (∀ b Z' H' g' w', q b g' → SO K Z' H' σ g' w' → Pst T Z H g w Z' H' g' w' → Q b H') ∧ exOk K W T Z H g w σ E
structure JT (X : Cx) (W : WX) (T : List Nat) (e : Expr) (t : AT) : Prop where
  pt : PT X e (liftT X.K W T t)
structure JW (X : Cx) (W : WX) (T : List Nat) (e : Expr) (t : AT) : Prop where
  pw : PW X e (liftT X.K W T t)
/-- a value that is True or False, as a test -/
def rT (te : AE) : AT := fun g Q E => te g (fun r g1 => match r with
  | .p (.bool b) => Q b g1
  | _ => False) E
theorem RRs.p1 {K : PySem.W.Frag} {Z : ZS} {H : Hp} {σ : L2.St} {g : Gm} {w : Ow} {d : D} {v : V} {f : List Addr} (h : RRs K Z H σ g w [.p d] [v] f) : PD K Z H v d ∧ f = [] := by
  cases h with
  | p h q => cases q; exact ⟨h, rfl⟩
theorem lift_t {K : PySem.W.Frag} {W : WX} {T : List Nat} {te : AE} {σ : L2.St} {H : Hp} {Q : Bool → Hp → Prop} (h : liftT K W T (rT te) σ H Q) : lift K W T te σ H fun v H' => ∃ k, v = .bl k ∧ Q k H' := by
  obtain ⟨Z, g, w, q, E, S, h, ok, ex⟩ := h
  refine ⟨Z, g, w, _, E, S, h, fun r v Z1 H1 g1 w1 f1 q1 O1 => ?_, ex⟩
  split at q1
  · exact ⟨_, PDt.bl_i (O1.rr.p1.1).t, ok _ Z1 H1 g1 w1 q1 O1.so O1.ps⟩
  · exact q1.elim
section
variable {X : Cx} {W : WX} {T T1 T2 : List Nat} {a b c : Expr} {rest : List Expr} {ta tb tc : AE} {ua ub : AT} {pos : Pos} {aop : Aop}
theorem jt_cmp {op : CmpOp} {r : R2} (ho : OpR X (compareOp op) r) (hp : POk X.K (tw r) aop) (hm : behindInMarks op b = false) (ha : JE X W T1 a ta) (hb : JE X W T2 b tb) :
    JT X W (T1 ++ (T2 ++ [])) (.Compare a [op] [b] pos) (rT (rOp aop (a2 T2 ta tb))) :=
  ⟨PTi (pt_cmpR ho ha.pe hb.pe hm) fun σ H Q h => lift2 (P := fun x y H2 => r x y H2 fun v H' => ∃ k, v = .bl k ∧ Q k H') (lift_op hp (lift_t h))⟩
theorem jt_val {e : Expr} {te : AE} (h : JE X W T e te) (he : ∀ whole, isTrue e X.env whole = (do let v ← whole; standAt e.pos; holding [v] (truthy v)) := by intro _; rfl) : JT X W T e (rT te) :=
  ⟨PTi (pt_val h.pe he) fun σ H Q h => lift_t h⟩
def rTand (T2 : List Nat) (t u : AT) : AT := fun g Q E => t g (fun b g1 => if b = true then u g1 Q E else Q false g1) E
def rTor (T2 : List Nat) (t u : AT) : AT := fun g Q E => t g (fun b g1 => if b = true then Q true g1 else u g1 Q E) E
theorem liftT_mono {K : PySem.W.Frag} {t : AT} {σ : L2.St} {H : Hp} {Q : Bool → Hp → Prop} (hT : ∀ i ∈ T1, i ∈ T2) (h : liftT K W T2 t σ H Q) : liftT K W T1 t σ H Q := by
  obtain ⟨Z, g, w, q, E, S, h, ok, ex⟩ := h
  exact ⟨Z, g, w, q, E, S, h, fun b Z1 H1 g1 w1 q1 S1 P1 => ok b Z1 H1 g1 w1 q1 S1 (P1.mono hT), ex.mono hT⟩
theorem jw_and1 (ha : JT X W T a ua) : JW X W T (.BoolOp .And [a] pos) ua := ⟨pw_and1 ha.pt⟩
theorem jw_or1 (ha : JT X W T a ua) : JW X W T (.BoolOp .Or [a] pos) ua := ⟨pw_or1 ha.pt⟩
theorem PWi {X : Cx} {e : Expr} {t t' : TT} (h : PW X e t) (i : ∀ σ H Q, t' σ H Q → t σ H Q) : PW X e t' := ⟨fun wh pins s σ H Q I q => h.run wh pins s σ H Q I (i σ H Q q)⟩
theorem jw_and (ha : JT X W T1 a ua) (hb : JW X W T2 (.BoolOp .And (b :: rest) pos) ub) : JW X W (T1 ++ T2) (.BoolOp .And (a :: b :: rest) pos) (rTand T2 ua ub) := by
  refine ⟨PWi (pw_and ha.pt hb.pw) fun σ H Q ⟨Z, g, w, q, E, S, h, ok, ex⟩ => ?_⟩
  refine ⟨Z, g, w, _, E, S, h, fun k Z1 H1 g1 w1 q1 S1 P1 => ?_, ex.of⟩
  cases k with
  | true =>
    rw [if_pos rfl] at q1 ⊢
    exact ⟨Z1, g1, w1, _, E, S1, q1, fun k2 Z2 H2 g2 w2 q2 S2 P2 => ok k2 Z2 H2 g2 w2 q2 S2 (P1.trans P2), ex.then P1⟩
  | false =>
    rw [if_neg Bool.false_ne_true] at q1 ⊢
    exact ok _ Z1 H1 g1 w1 q1 S1 (P1.mono fun i hi => by simp [hi])
theorem jw_or (ha : JT X W T1 a ua) (hb : JW X W T2 (.BoolOp .Or (b :: rest) pos) ub) : JW X W (T1 ++ T2) (.BoolOp .Or (a :: b :: rest) pos) (rTor T2 ua ub) := by
  refine ⟨PWi (pw_or ha.pt hb.pw) fun σ H Q ⟨Z, g, w, q, E, S, h, ok, ex⟩ => ?_⟩
  refine ⟨Z, g, w, _, E, S, h, fun k Z1 H1 g1 w1 q1 S1 P1 => ?_, ex.of⟩
  cases k with
  | false =>
    rw [if_neg Bool.false_ne_true] at q1 ⊢
    exact ⟨Z1, g1, w1, _, E, S1, q1, fun k2 Z2 H2 g2 w2 q2 S2 P2 => ok k2 Z2 H2 g2 w2 q2 S2 (P1.trans P2), ex.then P1⟩
  | true =>
    rw [if_pos rfl] at q1 ⊢
    exact ok _ Z1 H1 g1 w1 q1 S1 (P1.mono fun i hi => by simp [hi])
theorem JW.t {e : Expr} (h : JW X W T e ua) : JT X W T e ua := ⟨h.pw.pt⟩
def rTnot (t : AT) : AT := fun g Q E => t g (fun b g1 => Q (!b) g1) E
theorem jt_not (ha : JT X W T a ua) : JT X W T (.UnaryOp .Not a pos) (rTnot ua) :=
  ⟨PTi (pt_not ha.pt) fun σ H Q ⟨Z, g, w, q, E, S, h, ok, ex⟩ => ⟨Z, g, w, _, E, S, h, fun k Z1 H1 g1 w1 q1 S1 P1 => ok _ Z1 H1 g1 w1 q1 S1 P1, ex⟩⟩
/-! .. as values, True or False -/
def rAnd (ta tb : AE) : AE := fun g Q E => ta g (fun r g1 => match r with
  | .p (.bool b) => if b = true then tb g1 Q E else Q (.p (.bool false)) g1
  | _ => False) E
def rOr (ta tb : AE) : AE := fun g Q E => ta g (fun r g1 => match r with
  | .p (.bool b) => if b = true then Q (.p (.bool true)) g1 else tb g1 Q E
  | _ => False) E
theorem je_one {op} (h : JE X W T a ta) : JE X W T (.BoolOp op [a] pos) ta := ⟨pe_one h.pe⟩
theorem Out.after {K : PySem.W.Frag} {Z Z1 Z2 : ZS} {H H1 H2 : Hp} {g g1 g2 : Gm} {w w1 w2 : Ow} {σ : L2.St} {rs2 : List R} {vs2 : List V} {f2 : List Addr}
    (P1 : Pst T1 Z H g w Z1 H1 g1 w1) (O : Out K T2 Z1 H1 g1 w1 σ Z2 H2 g2 w2 rs2 vs2 f2) : Out K (T1 ++ T2) Z H g w σ Z2 H2 g2 w2 rs2 vs2 f2 := by
  have hn : ∀ a, H1 a = none → H a = none := fun a e => by
    cases h : H a with
    | none => rfl
    | some o => exact absurd e (P1.al a (by rw [h]; simp))
  refine ⟨O.so, P1.trans O.ps, O.rr, O.nd, O.dz, O.dw, O.fal, fun a m => ?_⟩
  rcases O.sr a m with z | ⟨j, hj, mj⟩
  · exact .inl (hn a z)
  · by_cases e : j ∈ T1
    · exact (P1.src j e a mj).imp id fun ⟨k, hk, mm⟩ => ⟨k, by simp [hk], mm⟩
    · rw [P1.fw j e] at mj
      exact .inr ⟨j, by simp [hj], mj⟩
theorem boolR {r : R} {p q : Prop} (h : match r with
  | .p (.bool b) => if b = true then p else q
  | _ => False) : match r with
  | .p (.bool true) => p
  | .p (.bool false) => q
  | _ => False := by
  split at h
  · rename_i b
    cases b with
    | true => exact h
    | false => exact h
  · exact h.elim
theorem je_and (ha : JE X W T1 a ta) (hb : JE X W T2 (.BoolOp .And (b :: rest) pos) tb) : JE X W (T1 ++ T2) (.BoolOp .And (a :: b :: rest) pos) (rAnd ta tb) := by
  refine ⟨PEi (pe_and ha.pe hb.pe) fun σ H Q ⟨Z, g, w, q, E, S, h, ok, ex⟩ => ?_⟩
  refine ⟨Z, g, w, _, E, S, h, fun r v Z1 H1 g1 w1 f1 q1 O1 => ?_, ex.of⟩
  have q1 := boolR q1
  split at q1
  · refine ⟨true, PDt.bl_i (O1.rr.p1.1).t, ?_⟩
    rw [if_pos rfl]
    exact ⟨Z1, g1, w1, _, E, O1.so, q1, fun r2 v2 Z2 H2 g2 w2 f2 q2 O2 => ok r2 v2 Z2 H2 g2 w2 f2 q2 (O2.after O1.ps), ex.then O1.ps⟩
  · refine ⟨false, PDt.bl_i (O1.rr.p1.1).t, ?_⟩
    rw [if_neg Bool.false_ne_true]
    have e := PDt.bl_i (O1.rr.p1.1).t
    subst e
    exact ok _ _ Z1 H1 g1 w1 f1 q1 (O1.mono fun i hi => by simp [hi])
  · exact q1.elim
theorem je_or (ha : JE X W T1 a ta) (hb : JE X W T2 (.BoolOp .Or (b :: rest) pos) tb) : JE X W (T1 ++ T2) (.BoolOp .Or (a :: b :: rest) pos) (rOr ta tb) := by
  refine ⟨PEi (pe_or ha.pe hb.pe) fun σ H Q ⟨Z, g, w, q, E, S, h, ok, ex⟩ => ?_⟩
  refine ⟨Z, g, w, _, E, S, h, fun r v Z1 H1 g1 w1 f1 q1 O1 => ?_, ex.of⟩
  have q1 := boolR q1
  split at q1
  · refine ⟨true, PDt.bl_i (O1.rr.p1.1).t, ?_⟩
    rw [if_pos rfl]
    have e := PDt.bl_i (O1.rr.p1.1).t
    subst e
    exact ok _ _ Z1 H1 g1 w1 f1 q1 (O1.mono fun i hi => by simp [hi])
  · refine ⟨false, PDt.bl_i (O1.rr.p1.1).t, ?_⟩
    rw [if_neg Bool.false_ne_true]
    exact ⟨Z1, g1, w1, _, E, O1.so, q1, fun r2 v2 Z2 H2 g2 w2 f2 q2 O2 => ok r2 v2 Z2 H2 g2 w2 f2 q2 (O2.after O1.ps), ex.then O1.ps⟩
  · exact q1.elim
def rNot (ta : AE) : AE := fun g Q E => ta g (fun r g1 => match r with
  | .p (.bool b) => Q (.p (.bool (!b))) g1
  | _ => False) E
theorem je_not (ha : JE X W T a ta) : JE X W T (.UnaryOp .Not a pos) (rNot ta) := by
  refine ⟨PEi (pe_not ha.pe) fun σ H Q ⟨Z, g, w, q, E, S, h, ok, ex⟩ => ?_⟩
  refine ⟨Z, g, w, _, E, S, h, fun r v Z1 H1 g1 w1 f1 q1 O1 => ?_, ex⟩
  split at q1
  · refine ⟨_, PDt.bl_i (O1.rr.p1.1).t, ?_⟩
    have O2 := O1.op (Ext.refl O1.so.zal) (RR1.p (d := .bool (!‹Bool›)) (PD.bl _))
    exact ok _ _ Z1 H1 g1 w1 [] q1 O2
  · exact q1.elim
/-- a if t else b -/
def rIf (t : AT) (ta tb : AE) : AE := fun g Q E => t g (fun b g1 => if b = true then ta g1 Q E else tb g1 Q E) E
theorem je_if {T3 : List Nat} (hc : JT X W T1 c ua) (ha : JE X W T2 a ta) (hb : JE X W T3 b tb) : JE X W (T1 ++ (T2 ++ T3)) (.IfExp c a b pos) (rIf ua ta tb) := by
  refine ⟨PEi (pe_ifExp hc.pt ha.pe hb.pe) fun σ H Q ⟨Z, g, w, q, E, S, h, ok, ex⟩ => ?_⟩
  refine ⟨Z, g, w, _, E, S, h, fun k Z1 H1 g1 w1 q1 S1 P1 => ?_, ex.of⟩
  have ex2 := ex.then P1
  show if k = true then _ else _
  cases k with
  | true =>
    rw [if_pos rfl] at q1 ⊢
    exact ⟨Z1, g1, w1, _, E, S1, q1, fun r2 v2 Z2 H2 g2 w2 f2 q2 O2 => ok r2 v2 Z2 H2 g2 w2 f2 q2 ((O2.after P1).mono fun i hi => by
      simp only [List.mem_append] at hi ⊢
      exact hi.imp id .inl), ex2.of⟩
  | false =>
    rw [if_neg Bool.false_ne_true] at q1 ⊢
    exact ⟨Z1, g1, w1, _, E, S1, q1, fun r2 v2 Z2 H2 g2 w2 f2 q2 O2 => ok r2 v2 Z2 H2 g2 w2 f2 q2 ((O2.after P1).mono fun i hi => by
      simp only [List.mem_append] at hi ⊢
      exact hi.imp id .inr), ex2.mono fun i hi => by simp [hi]⟩
end

/-! ### 9. Displays: what stands in them is let go -/
def takes : List R → Option (List D)
  | [] => some []
  | .p d :: rs => (takes rs).map (d :: ·)
  | .ow o :: rs => match frz o, takes rs with
    | some d, some ds => some (d :: ds)
    | _, _ => none
  | .sl _ _ :: _ => none
  | .vw _ _ _ :: _ => none
section
variable {K : PySem.W.Frag} {Z Z1 Z2 : ZS} {H H1 H2 : Hp} {σ : L2.St} {g g1 g2 : Gm} {w w1 w2 : Ow} {T T1 T2 : List Nat} {rs qs : List R} {vs us : List V} {f f1 f2 : List Addr}
theorem RRs.take (h : RRs K Z H σ g w rs vs f) : ∀ {ds : List D}, takes rs = some ds → PDs K (fun a => Z a ∨ a ∈ f) H vs ds := by
  induction h with
  | nil => intro ds e; cases e; exact .nil
  | p h _ ih =>
    intro ds e
    simp only [takes, Option.map_eq_some_iff] at e
    obtain ⟨t, e1, rfl⟩ := e
    exact .cons (h.kp Kp.or) (ih e1)
  | sl _ _ _ _ ih => intro ds e; cases e
  | vw h _ ih => intro ds e; cases e
  | ow h _ ih =>
    rename_i o v rs vs f1 f h' 
    intro ds e
    unfold takes at e
    cases e1 : frz o with
    | none => rw [e1] at e; simp at e
    | some d =>
      cases e2 : takes rs with
      | none => rw [e1, e2] at e; simp at e
      | some t =>
        rw [e1, e2] at e
        cases e
        exact .cons ((h.frz e1).kp (Kp.sub fun a z => z.imp id fun m => by simp [m])) ((ih e2).kp (Kp.sub fun a z => z.imp id fun m => by simp [m]))
/-- what came is let go, for good -/
theorem Out.let (O : Out K T Z H g w σ Z1 H1 g1 w1 rs vs f) : Out K T Z H g w σ (fun a => Z1 a ∨ a ∈ f) H1 g1 w1 [] [] [] where
  so := {
    len := O.so.len
    rep := fun i o e => by
      obtain ⟨v, h1, h2⟩ := O.so.rep i o e
      exact ⟨v, h1, h2.kp Kp.or fun _ _ => rfl⟩
    nd := O.so.nd
    dj := O.so.dj
    nz := fun i a m z => z.elim (O.so.nz i a m) fun mf => O.dw a mf i m
    wal := O.so.wal
    zal := fun a z => z.elim (O.so.zal a) (O.fal a) }
  ps := {
    zm := fun a z => .inl (O.ps.zm a z)
    only := O.ps.only
    al := O.ps.al
    zn := fun a z => z.elim (O.ps.zn a) fun m => .inr (O.sr a m)
    fg := O.ps.fg
    fw := O.ps.fw
    src := O.ps.src }
  rr := .nil
  nd := List.nodup_nil
  dz := fun _ m => absurd m (by simp)
  dw := fun _ m => absurd m (by simp)
  fal := fun _ m => absurd m (by simp)
  sr := fun _ m => absurd m (by simp)
theorem PDs.kp' (r : PDs K Z H vs ds) (k : Kp Z Z1 H H1) : PDs K Z1 H1 vs ds := r.kp k
end
/-- taken, then an operation on plain data -/
def POt (K : PySem.W.Frag) (r : List V → Hp → VK → Prop) (aop : Aop) : Prop :=
  ∀ (Z : ZS) (H : Hp) (vs : List V) (ds : List D) (k : R → Prop) (Q : VK), (∀ a, Z a → H a ≠ none) → PDs K Z H vs ds → aop ds k →
    (∀ rr v Z' H' f, k rr → Ext Z H Z' H' f → RR1 K Z' H' rr v f → Q v H') → r vs H Q
def rOt (aop : Aop) (ta : AA) : AE := fun g Q E => ta g (fun rs g1 => match takes rs with
  | some ds => aop ds fun rr => Q rr g1
  | none => False) E
theorem lift_ot {K : PySem.W.Frag} {W : WX} {T : List Nat} {ta : AA} {r : List V → Hp → VK → Prop} {aop : Aop} (hp : POt K r aop) {σ : L2.St} {H : Hp} {Q : VK} (h : lift K W T (rOt aop ta) σ H Q) : liftA K W T ta σ H fun vs H1 => r vs H1 Q := by
  obtain ⟨Z, g, w, q, E, S, h, ok, ex⟩ := h
  refine ⟨Z, g, w, _, E, S, h, fun rs vs Z1 H1 g1 w1 f1 q1 O1 => ?_, ex⟩
  cases e : takes rs with
  | none => rw [e] at q1; exact q1.elim
  | some ds =>
    rw [e] at q1
    have O2 := O1.let
    exact hp _ H1 vs ds _ Q O2.so.zal (O1.rr.take e) q1 fun rr v Z' H' f kk x rr1 => ok rr v Z' H' g1 w1 f kk (O2.op x rr1)
def aTup : Aop := fun ds k => ds.length ≤ sizeLine ∧ k (.p (.tuple ds))
def aLst : Aop := fun ds k => ds.length ≤ sizeLine ∧ k (.ow (.ls ds))
theorem ok_tup {K : PySem.W.Frag} : POt K (fun vs H Q => vs.length ≤ sizeLine ∧ ∀ p, H p = none → Q (.ref p) (upd H p (.tup vs))) aTup := by
  intro Z H vs ds k Q zl h2 h ret
  refine ⟨by rw [h2.length]; exact h.1, fun p hp => ?_⟩
  exact ret _ _ _ _ [] h.2 (Ext.new zl hp) (.p (.tup (.inl ⟨.inr rfl, .inl upd_same⟩) (h2.kp (Kp.new zl hp))))
theorem ok_lst {K : PySem.W.Frag} : POt K (fun vs H Q => vs.length ≤ sizeLine ∧ ∀ p, H p = none → Q (.ref p) (upd H p (.lst vs))) aLst := by
  intro Z H vs ds k Q zl h2 h ret
  refine ⟨by rw [h2.length]; exact h.1, fun p hp => ?_⟩
  exact ret _ _ _ _ [p] h.2 (Ext.own zl hp) (.ow (.ls upd_same (h2.kp (Kp.own zl hp))))
section
variable {X : Cx} {W : WX} {T T1 T2 T3 : List Nat} {a b c : Expr} {es : List Expr} {ta tb tc : AE} {tas : AA} {pos p2 : Pos} {aop : Aop}
theorem je_tup {x1} (h : JA X W T es tas) : JE X W T (.Tuple es x1 pos) (rOt aTup tas) := ⟨PEi (pe_tup h.pa) fun σ H Q h => lift_ot ok_tup h⟩
theorem je_lst (h : JA X W T es tas) : JE X W T (.List es pos) (rOt aLst tas) := ⟨PEi (pe_lst h.pa) fun σ H Q h => lift_ot ok_lst h⟩
/-- an empty dict -/
def rNewD : AE := fun g Q _ => Q (.ow (.dc [])) g
theorem je_newD : JE X W [] (.Dict [] [] pos) rNewD := by
  refine ⟨PEi pe_dnewK fun σ H Q ⟨Z, g, w, q, E, S, h, ok, ex⟩ p hp => ?_⟩
  have O := (Out.nil S).op (Ext.own S.zal hp (o := .dK [])) (RR1.ow (o := .dc []) (.dc upd_same rfl .nil))
  exact ok _ _ _ _ _ _ _ h O

/-! ### 10. Slices -/
def cutD {α : Type} (xs : List α) (lo hi : Option Int) : List α := (xs.drop (HT.sIx xs.length 0 lo)).take (HT.sIx xs.length xs.length hi - HT.sIx xs.length 0 lo)
def aSl : D → Option Int → Option Int → (R → Prop) → Prop
  | .str x, lo, hi, k => x.length ≤ sizeLine ∧ k (.p (.str (cutS x lo hi)))
  | .list xs, lo, hi, k => k (.ow (.ls (cutD xs lo hi)))
  | .tuple xs, lo, hi, k => k (.p (.tuple (cutD xs lo hi)))
  | _, _, _, _ => False
def rSlX (K : PySem.W.Frag) : V → Option Int → Option Int → Hp → VK → Prop := fun x lo hi H Q => rSlL K x lo hi H Q ∨ rSlA K x lo hi H Q ∨ rSlS x lo hi H Q
theorem sl_X : SlR X (rSlX X.K) := sl_list.or (sl_tupA.or sl_str)
theorem PDs.cut {K : PySem.W.Frag} {Z : ZS} {H : Hp} {vs : List V} {ds : List D} (r : PDs K Z H vs ds) (lo hi : Option Int) : PDs K Z H (cutV vs lo hi) (cutD ds lo hi) := by
  unfold cutV cutD
  rw [r.length]
  exact (r.drop _).take _
theorem ok_sl {K : PySem.W.Frag} {Z : ZS} {H : Hp} {v : V} {d : D} {lo hi : Option Int} {k : R → Prop} {Q : VK} (zl : ∀ a, Z a → H a ≠ none) (hv : PDu K Z H v d) (h : aSl d lo hi k)
    (ret : ∀ rr v Z' H' f, k rr → Ext Z H Z' H' f → RR1 K Z' H' rr v f → Q v H') : rSlX K v lo hi H Q := by
  unfold aSl at h
  split at h
  · rw [PDu.str_i hv]
    exact .inr (.inr ⟨_, rfl, h.1, ret _ _ Z H [] h.2 (Ext.refl zl) (.p (.str _))⟩)
  · obtain ⟨a, xs, rfl, hx, rx⟩ := hv
    exact .inl ⟨_, _, rfl, hx, fun p hp => ret _ _ _ _ [p] h (Ext.own zl hp) (.ow (.ls upd_same ((rx.cut _ _).kp (Kp.own zl hp))))⟩
  · rename_i ds
    obtain ⟨a, xs, rfl, hx, rx⟩ := PD.tup_i hv
    refine .inr (.inl ⟨_, _, rfl, hx, fun e => ?_, fun _ p hp => ?_⟩)
    · have e2 : cutD ds lo hi = ds := by
        unfold cutD
        rw [rx.length] at e
        rw [e.1, e.2]
        simp
      have h' : k (.p (.tuple (cutD ds lo hi))) := h
      rw [e2] at h'
      exact ret _ _ Z H [] h' (Ext.refl zl) (.p hv)
    · exact ret _ _ _ _ [] h (Ext.new zl hp) (.p (.tup (.inl ⟨.inr rfl, .inl upd_same⟩) ((rx.cut _ _).kp (Kp.new zl hp))))
  · exact h.elim
def isI (r : R) (k : Int → Prop) : Prop := match r with
  | .p (.int i) => k i
  | _ => False
theorem isI_i {K : PySem.W.Frag} {Z : ZS} {H : Hp} {σ : L2.St} {g : Gm} {w : Ow} {r : R} {v : V} {f : List Addr} {k : Int → Prop} (h : isI r k) (rr : RRs K Z H σ g w [r] [v] f) : ∃ i, r = .p (.int i) ∧ v = .int i ∧ k i := by
  unfold isI at h
  split at h
  · exact ⟨_, rfl, PDt.int_i (rr.p1.1).t, h⟩
  · exact h.elim
def rSlLU (T2 T3 : List Nat) (ta tb tc : AE) : AE := fun g Q E => ta g (fun r1 g1 => grd r1 (T2 ++ T3) (tb g1 (fun r2 g2 => isI r2 fun i => tc g2 (fun r3 g3 => isI r3 fun j => match datu r1 with
  | some d => aSl d (some i) (some j) fun rr => Q rr g3
  | none => False) E) E)) E
def rSlL (T2 : List Nat) (ta tb : AE) : AE := fun g Q E => ta g (fun r1 g1 => grd r1 T2 (tb g1 (fun r2 g2 => isI r2 fun i => match datu r1 with
  | some d => aSl d (some i) none fun rr => Q rr g2
  | none => False) E)) E
def rSlU (T2 : List Nat) (ta tb : AE) : AE := fun g Q E => ta g (fun r1 g1 => grd r1 T2 (tb g1 (fun r2 g2 => isI r2 fun i => match datu r1 with
  | some d => aSl d none (some i) fun rr => Q rr g2
  | none => False) E)) E
theorem je_slL (ha : JE X W T1 a ta) (hb : JE X W T2 b tb) : JE X W (T1 ++ T2) (.Subscript a (.Slice (some b) none none p2) pos) (rSlL T2 ta tb) := by
  refine ⟨PEi (pe_slice sl_X ha.pe (po_some hb.pe) po_none) fun σ H Q ⟨Z, g, w, q, E, S, h, ok, ex⟩ => ?_⟩
  refine ⟨Z, g, w, _, E, S, h, fun r1 v1 Z1 H1 g1 w1 f1 q1 O1 => ?_, ex.of⟩
  obtain ⟨gr, q1⟩ := grd.get q1
  refine ⟨Z1, g1, w1, _, E, O1.so, q1, fun r2 v2 Z2 H2 g2 w2 f2 q2 O2 => ?_, ex.then O1.ps⟩
  obtain ⟨i, e1, e2, q2⟩ := isI_i q2 O2.rr
  subst e1 e2
  refine ⟨i, rfl, ?_⟩
  have O3 := O1.cons O2 gr
  cases e : datu r1 with
  | none => rw [e] at q2; exact q2.elim
  | some d =>
    rw [e] at q2
    have hv := O3.rr.u (ds := [d, .int i]) (by simp only [datL]; rw [e]; rfl)
    cases hv with
    | cons hv _ => exact ok_sl O3.so.zal hv q2 fun rr v Z' H' f kk x rr1 => ok rr v Z' H' g2 w2 f kk (O3.op x rr1)
theorem je_slU (ha : JE X W T1 a ta) (hb : JE X W T2 b tb) : JE X W (T1 ++ T2) (.Subscript a (.Slice none (some b) none p2) pos) (rSlU T2 ta tb) := by
  refine ⟨PEi (pe_slice sl_X ha.pe po_none (po_some hb.pe)) fun σ H Q ⟨Z, g, w, q, E, S, h, ok, ex⟩ => ?_⟩
  refine ⟨Z, g, w, _, E, S, h, fun r1 v1 Z1 H1 g1 w1 f1 q1 O1 => ?_, ex.of⟩
  obtain ⟨gr, q1⟩ := grd.get q1
  refine ⟨Z1, g1, w1, _, E, O1.so, q1, fun r2 v2 Z2 H2 g2 w2 f2 q2 O2 => ?_, ex.then O1.ps⟩
  obtain ⟨i, e1, e2, q2⟩ := isI_i q2 O2.rr
  subst e1 e2
  refine ⟨i, rfl, ?_⟩
  have O3 := O1.cons O2 gr
  cases e : datu r1 with
  | none => rw [e] at q2; exact q2.elim
  | some d =>
    rw [e] at q2
    have hv := O3.rr.u (ds := [d, .int i]) (by simp only [datL]; rw [e]; rfl)
    cases hv with
    | cons hv _ => exact ok_sl O3.so.zal hv q2 fun rr v Z' H' f kk x rr1 => ok rr v Z' H' g2 w2 f kk (O3.op x rr1)
theorem je_slLU (ha : JE X W T1 a ta) (hb : JE X W T2 b tb) (hc : JE X W T3 c tc) : JE X W (T1 ++ (T2 ++ T3)) (.Subscript a (.Slice (some b) (some c) none p2) pos) (rSlLU T2 T3 ta tb tc) := by
  refine ⟨PEi (pe_slice sl_X ha.pe (po_some hb.pe) (po_some hc.pe)) fun σ H Q ⟨Z, g, w, q, E, S, h, ok, ex⟩ => ?_⟩
  refine ⟨Z, g, w, _, E, S, h, fun r1 v1 Z1 H1 g1 w1 f1 q1 O1 => ?_, ex.of⟩
  obtain ⟨gr, q1⟩ := grd.get q1
  have ex1 := ex.then O1.ps
  refine ⟨Z1, g1, w1, _, E, O1.so, q1, fun r2 v2 Z2 H2 g2 w2 f2 q2 O2 => ?_, ex1.of⟩
  obtain ⟨i, e1, e2, q2⟩ := isI_i q2 O2.rr
  subst e1 e2
  refine ⟨i, rfl, ?_⟩
  refine ⟨Z2, g2, w2, _, E, O2.so, q2, fun r3 v3 Z3 H3 g3 w3 f3 q3 O3 => ?_, ex1.then O2.ps⟩
  obtain ⟨j, e1, e2, q3⟩ := isI_i q3 O3.rr
  subst e1 e2
  refine ⟨j, rfl, ?_⟩
  have O4 := O1.cons (O2.cons O3 trivial) gr
  cases e : datu r1 with
  | none => rw [e] at q3; exact q3.elim
  | some d =>
    rw [e] at q3
    have hv := O4.rr.u (ds := [d, .int i, .int j]) (by simp only [datL]; rw [e]; rfl)
    cases hv with
    | cons hv _ => exact ok_sl O4.so.zal hv q3 fun rr v Z' H' f kk x rr1 => ok rr v Z' H' g3 w3 f kk (O4.op x rr1)
/-! ### 11. a < b < c -/
def rChain (T2 : List Nat) (op1 op2 : Aop) (ta tb tc : AE) : AE := fun g Q E => ta g (fun r1 g1 => grd r1 T2 (tb g1 (fun r2 g2 => match r2 with
  | .p d2 => match datL dat [r1, .p d2] with
    | some ds => op1 ds fun rr => match rr with
      | .p (.bool b) => if b = true then tc g2 (fun r3 g3 => match datL dat [.p d2, r3] with
        | some ds => op2 ds fun rr2 => Q rr2 g3
        | none => False) E else Q (.p (.bool false)) g2
      | _ => False
    | none => False
  | _ => False) E)) E
theorem RR1.p_i {K : PySem.W.Frag} {Z : ZS} {H : Hp} {v : V} {d : D} {f : List Addr} (h : RR1 K Z H (.p d) v f) : PD K Z H v d ∧ f = [] := by
  cases h with
  | p h => exact ⟨h, rfl⟩
theorem tw_get {r : R2} {x y : V} {H : Hp} {Q : VK} (h : tw r [x, y] H Q) : r x y H Q := by
  obtain ⟨_, _, e, h⟩ := h
  cases e
  exact h
theorem chain_lift {r r' : R2} {aop1 aop2 : Aop} (hp : POk X.K (tw r) aop1) (hp' : POk X.K (tw r') aop2) {σ : L2.St} {H : Hp} {Q : VK} (h : lift X.K W (T1 ++ (T2 ++ T3)) (rChain T2 aop1 aop2 ta tb tc) σ H Q) :
    tChain r r' (lift X.K W T1 ta) (lift X.K W T2 tb) (lift X.K W T3 tc) σ H Q := by
  obtain ⟨Z, g, w, q, E, S, h, ok, ex⟩ := h
  refine ⟨Z, g, w, _, E, S, h, fun r1 v1 Z1 H1 g1 w1 f1 q1 O1 => ?_, ex.of⟩
  obtain ⟨gr, q1⟩ := grd.get q1
  have ex1 := ex.then O1.ps
  refine ⟨Z1, g1, w1, _, E, O1.so, q1, fun r2 v2 Z2 H2 g2 w2 f2 q2 O2 => ?_, ex1.of⟩
  split at q2
  · rename_i d2
    have O3 := O1.cons O2 gr
    cases e : datL dat [r1, .p d2] with
    | none => rw [e] at q2; exact q2.elim
    | some ds =>
      rw [e] at q2
      refine tw_get (hp Z2 H2 [v1, v2] ds _ _ O2.so.zal (O3.rr.t e) q2 fun rr v Z' H' f kk x rr1 => ?_)
      have kk := boolR kk
      split at kk
      · have ev := PDt.bl_i (rr1.p_i).1.t
        refine ⟨true, ev, ?_⟩
        rw [if_pos rfl]
        have Ox := O2.op x rr1
        refine ⟨Z', g2, w2, _, E, Ox.so, kk, fun r3 v3 Z4 H4 g4 w4 f4 q4 O4 => ?_, ex1.then Ox.ps⟩
        have hd2 : PD X.K Z' H' v2 d2 := O2.rr.p1.1.kp (x.kpp O2.so.zal)
        have O5 := (Out.one (σ := σ) Ox.so hd2).cons O4 trivial
        cases e : datL dat [.p d2, r3] with
        | none => rw [e] at q4; exact q4.elim
        | some ds =>
          rw [e] at q4
          refine tw_get (hp' Z4 H4 [v2, v3] ds _ Q O4.so.zal (O5.rr.t e) q4 fun rr v Z5 H5 f5 kk x rr1 => ?_)
          exact ok rr v Z5 H5 g4 w4 f5 kk (((O4.op x rr1).after Ox.ps).after O1.ps)
      · have ev := PDt.bl_i (rr1.p_i).1.t
        refine ⟨false, ev, ?_⟩
        rw [if_neg Bool.false_ne_true]
        subst ev
        refine ok _ _ Z' H' g2 w2 f kk (((O2.op x rr1).after O1.ps).mono fun i hi => ?_)
        simp only [List.mem_append] at hi ⊢
        exact hi.imp id .inl
      · exact kk.elim
  · exact q2.elim
theorem je_chain {op op' : CmpOp} {r r' : R2} {aop1 aop2 : Aop} (ho : OpR X (compareOp op) r) (ho' : OpR X (compareOp op') r') (hp : POk X.K (tw r) aop1) (hp' : POk X.K (tw r') aop2) (ha : JE X W T1 a ta) (hb : JE X W T2 b tb) (hc : JE X W T3 c tc)
    (hm : lastMarks [op, op'] [b, c] = false := by with_unfolding_all rfl) : JE X W (T1 ++ (T2 ++ T3)) (.Compare a [op, op'] [b, c] pos) (rChain T2 aop1 aop2 ta tb tc) :=
  ⟨PEi (pe_chain ho ho' ha.pe hb.pe hc.pe hm) fun σ H Q h => chain_lift hp hp' h⟩
theorem jt_chain {op op' : CmpOp} {r r' : R2} {aop1 aop2 : Aop} (ho : OpR X (compareOp op) r) (ho' : OpR X (compareOp op') r') (hp : POk X.K (tw r) aop1) (hp' : POk X.K (tw r') aop2) (ha : JE X W T1 a ta) (hb : JE X W T2 b tb) (hc : JE X W T3 c tc)
    (hm : lastMarks [op, op'] [b, c] = false := by with_unfolding_all rfl) : JT X W (T1 ++ (T2 ++ T3)) (.Compare a [op, op'] [b, c] pos) (rT (rChain T2 aop1 aop2 ta tb tc)) :=
  ⟨PTi (pt_chain ho ho' ha.pe hb.pe hc.pe hm) fun σ H Q h => chain_lift hp hp' (lift_t h)⟩
end
end VL

namespace VL
open PySem PySem.Spec L2

/-! ### 12. Statements -/
structure AN where
  nx : Gm → Prop
  rt : R → Gm → Prop
  bk : Gm → Prop
  ct : Gm → Prop
  ex : EX
abbrev AS := AN → Gm → Prop
/-- B: the names that stay bound to what they were handed -/
structure Fin (K : PySem.W.Frag) (B T : List Nat) (Z : ZS) (H : Hp) (g : Gm) (w : Ow) (σ : L2.St) (Z' : ZS) (H' : Hp) (g' : Gm) (w' : Ow) (σ' : L2.St) : Prop where
  so : SO K Z' H' σ' g' w'
  ps : Pst T Z H g w Z' H' g' w'
  sb : ∀ i ∈ B, σ'[i]? = σ[i]?
  ln : σ'.length = σ.length
def exS (K : PySem.W.Frag) (W : WX) (B T : List Nat) (Z : ZS) (H : Hp) (g : Gm) (w : Ow) (σ : L2.St) (E : EX) : Prop :=
  ∀ C fs d Z' H' g' w' σ', E C fs g' → Fin K B T Z H g w σ Z' H' g' w' σ' → XD K Z' H' d fs → W (.ref C) d σ' H'
def liftS (K : PySem.W.Frag) (W : WX) (B T : List Nat) (t : AS) : TS := fun D σ H => ∃ Z g w N, SO K Z H σ g w ∧ t N g ∧
  (∀ Z' H' g' w' σ', Fin K B T Z H g w σ Z' H' g' w' σ' → (N.nx g' → D.nx σ' H') ∧ (N.bk g' → D.bk σ' H') ∧ (N.ct g' → D.ct σ' H')) ∧
  (∀ r v Z' H' g' w' σ' f, N.rt r g' → Out K T Z H g w σ' Z' H' g' w' [r] [v] f → (∀ i ∈ B, σ'[i]? = σ[i]?) → D.rt v H') ∧ exS K W B T Z H g w σ N.ex
structure JS (X : Cx) (W : WX) (B T : List Nat) (st : Stmt) (t : AS) : Prop where
  ps : PS X st (liftS X.K W B T t)
structure JSs (X : Cx) (W : WX) (B T : List Nat) (st : List Stmt) (t : AS) : Prop where
  ps : PSs X st (liftS X.K W B T t)
section
variable {K : PySem.W.Frag} {W : WX} {B T T1 T2 : List Nat} {Z Z1 Z2 : ZS} {H H1 H2 : Hp} {g g1 g2 : Gm} {w w1 w2 : Ow} {σ σ1 σ2 : L2.St} {E : EX} {rs : List R} {vs : List V} {f : List Addr}
theorem exS.e (h : exS K W B T2 Z H g w σ E) (hT : ∀ i ∈ T, i ∈ T2) : exOk K W T Z H g w σ E := fun C fs d Z' H' g' w' e s p x => h C fs d Z' H' g' w' σ e ⟨s, p.mono hT, fun _ _ => rfl, rfl⟩ x
theorem Fin.trans (a : Fin K B T1 Z H g w σ Z1 H1 g1 w1 σ1) (b : Fin K B T2 Z1 H1 g1 w1 σ1 Z2 H2 g2 w2 σ2) : Fin K B (T1 ++ T2) Z H g w σ Z2 H2 g2 w2 σ2 :=
  ⟨b.so, a.ps.trans b.ps, fun i hi => (b.sb i hi).trans (a.sb i hi), b.ln.trans a.ln⟩
theorem Fin.mono (a : Fin K B T1 Z H g w σ Z1 H1 g1 w1 σ1) (h : ∀ i ∈ T1, i ∈ T2) : Fin K B T2 Z H g w σ Z1 H1 g1 w1 σ1 := ⟨a.so, a.ps.mono h, a.sb, a.ln⟩
theorem Fin.refl (s : SO K Z H σ g w) : Fin K B [] Z H g w σ Z H g w σ := ⟨s, .refl, fun _ _ => rfl, rfl⟩
theorem exS.then (h : exS K W B (T1 ++ T2) Z H g w σ E) (p : Fin K B T1 Z H g w σ Z1 H1 g1 w1 σ1) : exS K W B T2 Z1 H1 g1 w1 σ1 E := fun C fs d Z' H' g' w' σ' e q x => h C fs d Z' H' g' w' σ' e (p.trans q) x
theorem exS.mono (h : exS K W B T2 Z H g w σ E) (hT : ∀ i ∈ T, i ∈ T2) : exS K W B T Z H g w σ E := fun C fs d Z' H' g' w' σ' e q x => h C fs d Z' H' g' w' σ' e (q.mono hT) x
theorem app_l {T1 T2 : List Nat} : ∀ i ∈ T1, i ∈ T1 ++ T2 := fun i h => by simp [h]
theorem app_r {T1 T2 : List Nat} : ∀ i ∈ T2, i ∈ T1 ++ T2 := fun i h => by simp [h]
theorem Out.fin (O : Out K T Z H g w σ Z1 H1 g1 w1 rs vs f) : Fin K B T Z H g w σ Z1 H1 g1 w1 σ := ⟨O.so, O.ps, fun _ _ => rfl, rfl⟩
end
def sNil : AS := fun N g => N.nx g
def AN.seq (N : AN) (nx : Gm → Prop) : AN := ⟨nx, N.rt, N.bk, N.ct, N.ex⟩
def sSeq (t u : AS) : AS := fun N g => t (N.seq (u N)) g
section
variable {X : Cx} {W : WX} {B T T1 T2 T3 : List Nat} {st : Stmt} {sts : List Stmt} {t u : AS} {e : Expr} {te : AE} {pos : Pos}
theorem js_nil : JSs X W B [] [] sNil := ⟨PSsi pss_nil fun D σ H ⟨Z, g, w, N, S, h, ok, _, _⟩ => (ok Z H g w σ (.refl S)).1 h⟩
theorem js_cons (h1 : JS X W B T1 st t) (h2 : JSs X W B T2 sts u) : JSs X W B (T1 ++ T2) (st :: sts) (sSeq t u) := by
  refine ⟨PSsi (pss_cons h1.ps h2.ps) fun D σ H ⟨Z, g, w, N, S, h, ok, rt, ex⟩ => ?_⟩
  refine ⟨Z, g, w, _, S, h, fun Z1 H1 g1 w1 σ1 F1 => ⟨fun q1 => ?_, (ok Z1 H1 g1 w1 σ1 (F1.mono app_l)).2.1, (ok Z1 H1 g1 w1 σ1 (F1.mono app_l)).2.2⟩, fun r v Z1 H1 g1 w1 σ1 f q1 O1 sb => rt r v Z1 H1 g1 w1 σ1 f q1 (O1.mono app_l) sb, ex.mono app_l⟩
  exact ⟨Z1, g1, w1, N, F1.so, q1, fun Z2 H2 g2 w2 σ2 F2 => ok Z2 H2 g2 w2 σ2 (F1.trans F2), fun r v Z2 H2 g2 w2 σ2 f q2 O2 sb => rt r v Z2 H2 g2 w2 σ2 f q2 (O2.after F1.ps) fun i hi => (sb i hi).trans (F1.sb i hi), ex.then F1⟩
theorem js_one (h1 : JS X W B T st t) : JSs X W B T [st] t := ⟨PSsi (pss_one h1.ps) fun _ _ _ h => h⟩
theorem js_pass : JS X W B [] (.Pass pos) sNil := ⟨PSi ps_pass fun D σ H ⟨Z, g, w, N, S, h, ok, _, _⟩ => (ok Z H g w σ (.refl S)).1 h⟩
def sBreak : AS := fun N g => N.bk g
def sCont : AS := fun N g => N.ct g
theorem js_break : JS X W B [] (.Break pos) sBreak := ⟨PSi ps_break fun D σ H ⟨Z, g, w, N, S, h, ok, _, _⟩ => (ok Z H g w σ (.refl S)).2.1 h⟩
theorem js_cont : JS X W B [] (.Continue pos) sCont := ⟨PSi ps_continue fun D σ H ⟨Z, g, w, N, S, h, ok, _, _⟩ => (ok Z H g w σ (.refl S)).2.2 h⟩
def sExpr (te : AE) : AS := fun N g => te g (fun _ g1 => N.nx g1) N.ex
theorem js_expr (he : JE X W T e te) (hs : swapsWith e none pos.line X.env = pure false := by rfl) : JS X W B T (.Expr e pos) (sExpr te) :=
  ⟨PSi (ps_expr he.pe hs) fun D σ H ⟨Z, g, w, N, S, h, ok, _, ex⟩ => ⟨Z, g, w, _, N.ex, S, h, fun r v Z1 H1 g1 w1 f1 q1 O1 => (ok Z1 H1 g1 w1 σ O1.fin).1 q1, ex.e fun _ h => h⟩⟩
/-- return of plain data or of an owned thing -/
def sRet (te : AE) : AS := fun N g => te g (fun r g1 => match r with
  | .p d => N.rt (.p d) g1
  | .ow o => N.rt (.ow o) g1
  | _ => False) N.ex
theorem js_ret (he : JE X W T e te) : JS X W B T (.Return (some e) pos) (sRet te) := by
  refine ⟨PSi (ps_ret he.pe) fun D σ H ⟨Z, g, w, N, S, h, ok, rt, ex⟩ => ⟨Z, g, w, _, N.ex, S, h, fun r v Z1 H1 g1 w1 f1 q1 O1 => ?_, ex.e fun _ h => h⟩⟩
  split at q1
  · exact rt _ v Z1 H1 g1 w1 σ f1 q1 O1 fun _ _ => rfl
  · exact rt _ v Z1 H1 g1 w1 σ f1 q1 O1 fun _ _ => rfl
  · exact q1.elim
def sRetN : AS := fun N g => N.rt (.p .none) g
theorem js_retN : JS X W B [] (.Return none pos) sRetN := ⟨PSi ps_retN fun D σ H ⟨Z, g, w, N, S, h, ok, rt, ex⟩ => rt _ _ Z H g w σ [] h (Out.one S .non) fun _ _ => rfl⟩
def sIf (c : AT) (t u : AS) : AS := fun N g => c g (fun b g1 => if b = true then t N g1 else u N g1) N.ex
theorem js_if {c : Expr} {a b : List Stmt} {tc : AT} (hc : JT X W T1 c tc) (ha : JSs X W B T2 a t) (hb : JSs X W B T3 b u) : JS X W B (T1 ++ (T2 ++ T3)) (.If c a b pos) (sIf tc t u) := by
  refine ⟨PSi (ps_if hc.pt ha.ps hb.ps) fun D σ H ⟨Z, g, w, N, S, h, ok, rt, ex⟩ => ?_⟩
  refine ⟨Z, g, w, _, N.ex, S, h, fun k Z1 H1 g1 w1 q1 S1 P1 => ?_, ex.e app_l⟩
  have F1 : Fin X.K B T1 Z H g w σ Z1 H1 g1 w1 σ := ⟨S1, P1, fun _ _ => rfl, rfl⟩
  have ex1 := ex.then F1
  show if k = true then _ else _
  cases k with
  | true =>
    rw [if_pos rfl] at q1 ⊢
    exact ⟨Z1, g1, w1, N, S1, q1, fun Z2 H2 g2 w2 σ2 F2 => ok Z2 H2 g2 w2 σ2 (F1.trans (F2.mono app_l)), fun r v Z2 H2 g2 w2 σ2 f q2 O2 sb => rt r v Z2 H2 g2 w2 σ2 f q2 ((O2.mono app_l).after P1) sb, ex1.mono app_l⟩
  | false =>
    rw [if_neg Bool.false_ne_true] at q1 ⊢
    exact ⟨Z1, g1, w1, N, S1, q1, fun Z2 H2 g2 w2 σ2 F2 => ok Z2 H2 g2 w2 σ2 (F1.trans (F2.mono app_r)), fun r v Z2 H2 g2 w2 σ2 f q2 O2 sb => rt r v Z2 H2 g2 w2 σ2 f q2 ((O2.mono app_r).after P1) sb, ex1.mono app_r⟩
end

/-! ### 13. Names are bound -/
def own1 : R → Option O
  | .p d => some (.p d)
  | .ow o => some o
  | _ => none
section
variable {K : PySem.W.Frag} {W : WX} {B T T1 T2 : List Nat} {Z Z1 Z2 : ZS} {H H1 H2 : Hp} {g g1 g2 : Gm} {w w1 w2 : Ow} {σ σ1 σ2 : L2.St} {E : EX} {rs : List R} {vs : List V} {f : List Addr} {r : R} {v : V} {o : O} {i : Nat}
theorem RRs.own (h : RRs K Z H σ g w [r] [v] f) (e : own1 r = some o) : RO K Z H o v f := by
  cases h with
  | p h q => cases q; cases e; exact .p h
  | sl _ _ _ _ => cases e
  | vw _ _ => cases e
  | ow h q => cases q; cases e; simpa using h
theorem Out.store (O : Out K T Z H g w σ Z1 H1 g1 w1 [r] [v] f) (e : own1 r = some o) (hB : B.contains i = false) :
    Fin K B (T ++ [i]) Z H g w σ Z1 H1 (g1.set i (some o)) (fun j => if j = i then f else w1 j) (σ.set i (some v)) := by
  have ro := O.rr.own e
  have S := O.so
  refine ⟨⟨?_, fun j oo ej => ?_, fun j => ?_, fun j k a hj hk => ?_, fun j a m => ?_, fun j a m => ?_, S.zal⟩, ⟨O.ps.zm, fun a ha hw => O.ps.only a ha fun j hj => hw j (app_l j hj), O.ps.al, fun a z => (O.ps.zn a z).imp id fun z => z.imp id fun ⟨j, hj, m⟩ => ⟨j, app_l j hj, m⟩, fun j hj => ?_, fun j hj => ?_, fun j hj a m => ?_⟩, fun j hj => ?_, by rw [List.length_set]⟩
  · rw [List.length_set, List.length_set]; exact S.len
  · by_cases h : j = i
    · subst h
      have hl : j < g1.length := by
        have := List.getElem?_eq_some_iff.mp ej
        simpa using this.1
      rw [List.getElem?_set_self hl] at ej
      cases ej
      refine ⟨v, List.getElem?_set_self (Nat.lt_of_lt_of_le hl S.len), ?_⟩
      rw [if_pos rfl]
      exact ro
    · rw [List.getElem?_set_ne (Ne.symm h)] at ej
      obtain ⟨v', e1, r1⟩ := S.rep j oo ej
      refine ⟨v', by rw [List.getElem?_set_ne (Ne.symm h)]; exact e1, ?_⟩
      rw [if_neg h]
      exact r1
  · show (if j = i then f else w1 j).Nodup
    split
    · exact O.nd
    · exact S.nd j
  · have hj : a ∈ if j = i then f else w1 j := hj
    have hk : a ∈ if k = i then f else w1 k := hk
    split at hj <;> split at hk
    · rename_i e1 e2; rw [e1, e2]
    · exact absurd hk (O.dw a hj k)
    · exact absurd hj (O.dw a hk j)
    · exact S.dj j k a hj hk
  · have m : a ∈ if j = i then f else w1 j := m
    split at m
    · exact O.dz a m
    · exact S.nz j a m
  · have m : a ∈ if j = i then f else w1 j := m
    split at m
    · exact O.fal a m
    · exact S.wal j a m
  · have h1 : j ∉ T ∧ j ≠ i := by simpa using hj
    rw [List.getElem?_set_ne (Ne.symm h1.2)]
    exact O.ps.fg j h1.1
  · have h1 : j ∉ T ∧ j ≠ i := by simpa using hj
    show (if j = i then f else w1 j) = w j
    rw [if_neg h1.2]
    exact O.ps.fw j h1.1
  · have m : a ∈ if j = i then f else w1 j := m
    split at m
    · exact (O.sr a m).imp id fun ⟨k, hk, mm⟩ => ⟨k, app_l k hk, mm⟩
    · rename_i hne
      have hjT : j ∈ T := by
        have : j ∈ T ∨ j = i := by simpa using hj
        exact this.resolve_right hne
      exact (O.ps.src j hjT a m).imp id fun ⟨k, hk, mm⟩ => ⟨k, app_l k hk, mm⟩
  · have hne : i ≠ j := fun e => by
      subst e
      simp at hB
      exact hB hj
    rw [List.getElem?_set_ne hne]
end
def sSet (i : Nat) (te : AE) : AS := fun N g => te g (fun r g1 => match own1 r with
  | some o => N.nx (g1.set i (some o))
  | none => False) N.ex
/-- a target takes a thing -/
abbrev AG := R → AS
section
variable {X : Cx} {W : WX} {B T T1 T2 T3 : List Nat} {e : Expr} {te : AE} {pos pos' : Pos} {x : Str} {i : Nat}
theorem js_set (hB : B.contains i = false) (hN : X.N.Nodup) (hi : X.N[i]? = some x) (hx : Loc X.env.scope x) (he : JE X W T e te) (hs : swapsWith e (some (.Name x pos')) pos.line X.env = pure false := by rfl)
    (hf : X.fn x = true ∨ X.env.scope.names.lookup x = some .local := by first | exact .inl rfl | exact .inr rfl | assumption) : JS X W B (T ++ [i]) (.Assign [.Name x pos'] e pos) (sSet i te) := by
  refine ⟨PSi (ps_set hN hi hx he.pe hs hf) fun D σ H ⟨Z, g, w, N, S, h, ok, rt, ex⟩ => ⟨Z, g, w, _, N.ex, S, h, fun r v Z1 H1 g1 w1 f1 q1 O1 => ?_, ex.e app_l⟩⟩
  cases e1 : own1 r with
  | none => rw [e1] at q1; exact q1.elim
  | some o =>
    rw [e1] at q1
    exact (ok _ _ _ _ _ (O1.store e1 hB)).1 q1
end
/-! ### 14. A name's thing is handed on, or let go -/
def rMv (i : Nat) : AE := fun g Q _ => match g[i]? with
  | some (some (.p d)) => Q (.p d) g
  | some (some o) => Q (.ow o) (g.set i none)
  | _ => False
def rFz (i : Nat) : AE := fun g Q _ => match g[i]? with
  | some (some (.p d)) => Q (.p d) g
  | some (some o) => match frz o with
    | some d => Q (.p d) (g.set i (some (.p d)))
    | none => False
  | _ => False
section
variable {K : PySem.W.Frag} {Z : ZS} {H : Hp} {g : Gm} {w : Ow} {σ : L2.St} {o : O} {i : Nat} {v : V}
theorem SO.gone (S : SO K Z H σ g w) (e : g[i]? = some (some o)) (ev : σ[i]? = some (some v)) (ro : RO K Z H o v (w i)) : Out K [i] Z H g w σ Z H (g.set i none) (fun j => if j = i then [] else w j) [.ow o] [v] (w i) := by
  refine ⟨⟨by rw [List.length_set]; exact S.len, fun j oo ej => ?_, fun j => ?_, fun j k a hj hk => ?_, fun j a m => ?_, fun j a m => ?_, S.zal⟩, ⟨fun _ z => z, fun _ _ _ => rfl, fun _ h => h, fun _ z => .inl z, fun j hj => ?_, fun j hj => ?_, fun j hj a m => ?_⟩, ?_, S.nd i, S.nz i, fun a m j mj => ?_, S.wal i, fun a m => .inr ⟨i, by simp, m⟩⟩
  · by_cases h : j = i
    · subst h
      have hl : j < g.length := by
        have := List.getElem?_eq_some_iff.mp ej
        simpa using this.1
      rw [List.getElem?_set_self hl] at ej
      cases ej
    · rw [List.getElem?_set_ne (Ne.symm h)] at ej
      obtain ⟨v', e1, r1⟩ := S.rep j oo ej
      refine ⟨v', e1, ?_⟩
      rw [if_neg h]
      exact r1
  · show (if j = i then [] else w j).Nodup
    split
    · exact List.nodup_nil
    · exact S.nd j
  · have hj : a ∈ if j = i then [] else w j := hj
    have hk : a ∈ if k = i then [] else w k := hk
    split at hj <;> split at hk <;> first | exact absurd hj (by simp) | exact absurd hk (by simp) | exact S.dj j k a hj hk
  · have m : a ∈ if j = i then [] else w j := m
    split at m
    · exact absurd m (by simp)
    · exact S.nz j a m
  · have m : a ∈ if j = i then [] else w j := m
    split at m
    · exact absurd m (by simp)
    · exact S.wal j a m
  · have h1 : j ≠ i := by simpa using hj
    rw [List.getElem?_set_ne (Ne.symm h1)]
  · have h1 : j ≠ i := by simpa using hj
    show (if j = i then [] else w j) = w j
    rw [if_neg h1]
  · have h1 : j = i := by simpa using hj
    have m : a ∈ if j = i then [] else w j := m
    rw [if_pos h1] at m
    exact absurd m (by simp)
  · have := RRs.ow (σ := σ) (g := g.set i none) (w := fun j => if j = i then [] else w j) ro .nil
    simpa using this
  · have mj : a ∈ if j = i then [] else w j := mj
    split at mj
    · exact absurd mj (by simp)
    · rename_i hne
      exact hne (S.dj j i a mj m)
end
section
variable {X : Cx} {W : WX} {pos : Pos}
theorem je_mv (i : Nat) {x : Str} (hN : X.N[i]? = some x := by rfl) (hv : Vis X.env.scope x := by first | exact Or.inl rfl | exact Or.inr (Or.inl rfl) | exact Or.inr (Or.inr rfl)) (hd : (x == ("__debug__" : Str)) = false := by decide)
    (hcd : (x == ("__classdict__" : Str)) = false := by decide) : JE X W [i] (.Name x pos) (rMv i) := by
  refine ⟨PEi (pe_var hN hv hd hcd) fun σ H Q ⟨Z, g, w, q, E, S, h, ok, ex⟩ => ?_⟩
  unfold rMv at h
  split at h
  · rename_i d e
    obtain ⟨v, e1, ro⟩ := S.rep i _ e
    exact ⟨v, e1, ok _ v Z H g w [] h ((Out.one S ro.p_inv.1).mono fun _ m => absurd m (by simp))⟩
  · rename_i o _ e
    obtain ⟨v, e1, ro⟩ := S.rep i _ e
    exact ⟨v, e1, ok _ v Z H _ _ _ h (S.gone e e1 ro)⟩
  · exact h.elim
theorem je_fz (i : Nat) {x : Str} (hN : X.N[i]? = some x := by rfl) (hv : Vis X.env.scope x := by first | exact Or.inl rfl | exact Or.inr (Or.inl rfl) | exact Or.inr (Or.inr rfl)) (hd : (x == ("__debug__" : Str)) = false := by decide)
    (hcd : (x == ("__classdict__" : Str)) = false := by decide) : JE X W [i] (.Name x pos) (rFz i) := by
  refine ⟨PEi (pe_var hN hv hd hcd) fun σ H Q ⟨Z, g, w, q, E, S, h, ok, ex⟩ => ?_⟩
  unfold rFz at h
  split at h
  · rename_i d e
    obtain ⟨v, e1, ro⟩ := S.rep i _ e
    exact ⟨v, e1, ok _ v Z H g w [] h ((Out.one S ro.p_inv.1).mono fun _ m => absurd m (by simp))⟩
  · rename_i o _ e
    obtain ⟨v, e1, ro⟩ := S.rep i _ e
    refine ⟨v, e1, ?_⟩
    cases ef : frz o with
    | none => rw [ef] at h; exact h.elim
    | some d =>
      rw [ef] at h
      have Ol := (S.gone e e1 ro).let
      have pd := ro.frz ef
      -- put the plain data back
      have O2 : Out X.K [i] Z H g w σ (fun a => Z a ∨ a ∈ w i) H (g.set i none) (fun j => if j = i then [] else w j) [.p d] [v] [] := ⟨Ol.so, Ol.ps, RRs.p pd RRs.nil, List.nodup_nil, fun _ m => absurd m (by simp), fun _ m => absurd m (by simp), fun _ m => absurd m (by simp), fun _ m => absurd m (by simp)⟩
      have F := O2.store (B := []) (i := i) (o := .p d) rfl rfl
      have hl : i < σ.length := (List.getElem?_eq_some_iff.mp e1).1
      have eσ : σ.set i (some v) = σ := by
        apply List.ext_getElem?
        intro j
        by_cases hj : j = i
        · subst hj; rw [List.getElem?_set_self hl]; exact e1.symm
        · rw [List.getElem?_set_ne (Ne.symm hj)]
      have eg : (g.set i none).set i (some (O.p d)) = g.set i (some (O.p d)) := by simp
      rw [eσ, eg] at F
      have P := F.ps.mono (T2 := [i]) fun j hj => by simpa using hj
      exact ok _ v _ H _ _ [] h ⟨F.so, P, RRs.p pd RRs.nil, List.nodup_nil, fun _ m => absurd m (by simp), fun _ m => absurd m (by simp), fun _ m => absurd m (by simp), fun _ m => absurd m (by simp)⟩
  · exact h.elim
end
end VL

namespace VL
open PySem PySem.Spec L2

/-! ### 15. An owned thing is changed in its place -/
def vwp : R → Option (Nat × O × (O → O))
  | .sl i o => some (i, o, fun x => x)
  | .vw i o pl => some (i, o, pl)
  | _ => none
section
variable {K : PySem.W.Frag} {W : WX} {B T T1 T2 : List Nat} {Z Z1 Z2 : ZS} {H H1 H2 : Hp} {g g1 g2 : Gm} {w w1 w2 : Ow} {σ σ1 σ2 : L2.St} {E : EX} {rs : List R} {vs : List V} {f : List Addr} {r : R} {v : V} {o o2 : O} {i : Nat} {pl : O → O} {a : Addr} {ho : HO}
theorem RRs.vwp (h : RRs K Z H σ g w (r :: rs) (v :: vs) f) (e : vwp r = some (i, o, pl)) : VW K Z H σ g w i o pl v := by
  cases h with
  | p h q => cases e
  | sl e1 e2 ro q => cases e; exact ⟨v, [], w _, [], e1, by simp, ro, e2, fun Z2 H2 o2 f2 _ _ r2 => by simpa using r2⟩
  | vw h q => cases e; exact h
  | ow h q => cases e
theorem grd_vwp {T : List Nat} (e : vwp r = some (i, o, pl)) (h : T.contains i = false) : grd r T True := by
  cases r with
  | p d => cases e
  | sl j oo => cases e; exact ⟨h, trivial⟩
  | vw j oo p => cases e; exact ⟨h, trivial⟩
  | ow o => cases e
theorem VW.mut (S : SO K Z H σ g w) (h : VW K Z H σ g w i o pl (.ref a))
    (hm : ∀ fv, RO K Z H o (.ref a) fv → a ∈ fv ∧ (Kp Z Z H (upd H a ho) → (∀ b ∈ fv, b ≠ a → (upd H a ho) b = H b) → fv.Nodup → RO K Z (upd H a ho) o2 (.ref a) fv)) :
    SO K Z (upd H a ho) σ (g.set i (some (pl o2))) w ∧ Pst [i] Z H g w Z (upd H a ho) (g.set i (some (pl o2))) w := by
  obtain ⟨rv, pre, f, post, e1, e2, ro, e4, plug⟩ := h
  obtain ⟨af, hm⟩ := hm f ro
  have aw : a ∈ w i := by rw [e2]; simp [af]
  have na : ∀ b, b ≠ a → (upd H a ho) b = H b := fun b hb => upd_ne hb
  have kp : Kp Z Z H (upd H a ho) := fun b z => ⟨z, na b fun e => S.nz i a aw (e ▸ z)⟩
  have ndi := S.nd i
  rw [e2] at ndi
  have ndf : f.Nodup := ((List.nodup_append.mp (List.nodup_append.mp ndi).1).2.1)
  have r2 := hm kp (fun b _ hb => na b hb) ndf
  have pp : ∀ b ∈ pre ++ post, (upd H a ho) b = H b := fun b hb => na b fun e => by
    subst e
    obtain ⟨n1, n2, n3⟩ := List.nodup_append.mp ndi
    obtain ⟨m1, m2, m3⟩ := List.nodup_append.mp n1
    rcases List.mem_append.mp hb with hb | hb
    · exact m3 b hb b af rfl
    · exact n3 b (by simp [af]) b hb rfl
  have root := plug Z (upd H a ho) o2 f kp pp r2
  have hl : i < g.length := (List.getElem?_eq_some_iff.mp e4).1
  refine ⟨⟨by rw [List.length_set]; exact S.len, fun j oo ej => ?_, S.nd, S.dj, S.nz, fun j b m => ?_, fun b z => ?_⟩, ⟨fun _ z => z, fun b hb hw => na b fun e => hw i (by simp) (e ▸ aw), fun b hb => ?_, fun _ z => .inl z, fun j hj => ?_, fun _ _ => rfl, fun j hj b m => .inr ⟨j, hj, m⟩⟩⟩
  · by_cases h : j = i
    · subst h
      rw [List.getElem?_set_self hl] at ej
      cases ej
      exact ⟨rv, e1, by rw [e2]; exact root⟩
    · rw [List.getElem?_set_ne (Ne.symm h)] at ej
      obtain ⟨v', h1, h2⟩ := S.rep j oo ej
      exact ⟨v', h1, h2.kp kp fun b m => na b fun e => h (S.dj j i a (e ▸ m) aw)⟩
  · by_cases e : b = a
    · rw [e, upd_same]; simp
    · rw [na b e]; exact S.wal j b m
  · rw [(kp b z).2]; exact S.zal b z
  · by_cases e : b = a
    · rw [e, upd_same]; simp
    · rw [na b e]; exact hb
  · have : j ≠ i := by simpa using hj
    rw [List.getElem?_set_ne (Ne.symm this)]
/-- a list of plain data -/
theorem VW.lst {es es' : List D} {xs xs' : List V} (S : SO K Z H σ g w) (h : VW K Z H σ g w i (.ls es) pl (.ref a)) (r2 : PDs K Z H xs' es') :
    SO K Z (upd H a (.lst xs')) σ (g.set i (some (pl (.ls es')))) w ∧ Pst [i] Z H g w Z (upd H a (.lst xs')) (g.set i (some (pl (.ls es')))) w :=
  h.mut S fun fv ro => by
    cases ro with
    | ls h r => exact ⟨by simp, fun kp _ _ => .ls upd_same (r2.kp kp)⟩
theorem VW.at {es : List D} (h : VW K Z H σ g w i (.ls es) pl v) : ∃ a xs, v = .ref a ∧ H a = some (.lst xs) ∧ PDs K Z H xs es := by
  obtain ⟨rv, pre, f, post, e1, e2, ro, e4, plug⟩ := h
  cases ro with
  | ls h r => exact ⟨_, _, rfl, h, r⟩
theorem RRs.tail (h : RRs K Z H σ g w (r :: rs) (v :: vs) f) (e : VL.vwp r = some (i, o, pl)) : RRs K Z H σ g w rs vs f := by
  cases h with
  | p h q => cases e
  | sl _ _ _ q => exact q
  | vw _ q => exact q
  | ow h q => cases e
end
theorem app_mem {f1 f2 : List Addr} : ∀ a ∈ f1, a ∈ f1 ++ f2 := fun a m => by simp [m]
theorem Out.fk {K : PySem.W.Frag} {T1 T2 : List Nat} {Z Z1 Z2 : ZS} {H H1 H2 : Hp} {g g1 g2 : Gm} {w w1 w2 : Ow} {σ : L2.St} {rs rs2 : List R} {vs vs2 : List V} {f1 f2 : List Addr}
    (h1 : Out K T1 Z H g w σ Z1 H1 g1 w1 rs vs f1) (h2 : Out K T2 Z1 H1 g1 w1 σ Z2 H2 g2 w2 rs2 vs2 f2) : ∀ a ∈ f1, H2 a = H1 a := fun a m => h2.ps.only a (h1.fal a m) fun i _ => h1.dw a m i
/-- what was taken stays plain -/
theorem Out.take2 {K : PySem.W.Frag} {T1 T2 : List Nat} {Z Z1 Z2 : ZS} {H H1 H2 : Hp} {g g1 g2 : Gm} {w w1 w2 : Ow} {σ : L2.St} {rs rs2 : List R} {vs vs2 : List V} {f1 f2 f : List Addr} {ds : List D}
    (h1 : Out K T1 Z H g w σ Z1 H1 g1 w1 rs vs f1) (h2 : Out K T2 Z1 H1 g1 w1 σ Z2 H2 g2 w2 rs2 vs2 f2) (e : takes rs = some ds) (hf : ∀ a ∈ f1, a ∈ f) : PDs K (fun a => Z2 a ∨ a ∈ f) H2 vs ds := by
  refine (h1.rr.take e).kp fun a z => ?_
  rcases z with z | z
  · exact ⟨.inl (h2.ps.zm a z), ((h2.ps.kp h1.so) a z).2⟩
  · exact ⟨.inr (hf a z), h1.fk h2 a z⟩
/-- a method of a list of plain data: what it asks, its answer, the list behind -/
abbrev Mop := List D → List D → (D → List D → Prop) → Prop
def MOk (K : PySem.W.Frag) (r : V → List V → Hp → VK → Prop) (m : Mop) : Prop :=
  ∀ (Z : ZS) (H : Hp) (a : Addr) (xs : List V) (es : List D) (vs : List V) (ds : List D) (k : D → List D → Prop) (Q : VK), H a = some (.lst xs) → PDs K Z H xs es → PDs K Z H vs ds → m es ds k →
    (∀ v d xs' es', k d es' → PD K Z H v d → PDs K Z H xs' es' → Q v (upd H a (.lst xs'))) → r (.ref a) vs H Q
/-- .. whose arguments are read -/
def MOr (K : PySem.W.Frag) (r : V → List V → Hp → VK → Prop) (m : Mop) : Prop :=
  ∀ (Z : ZS) (H : Hp) (a : Addr) (xs : List V) (es : List D) (vs : List V) (ds : List D) (k : D → List D → Prop) (Q : VK), H a = some (.lst xs) → PDs K Z H xs es → All2 (PDt K Z H) vs ds → m es ds k →
    (∀ v d xs' es', k d es' → PD K Z H v d → PDs K Z H xs' es' → Q v (upd H a (.lst xs'))) → r (.ref a) vs H Q
def rMt (I : Nat) (T2 : List Nat) (m : Mop) (to : AE) (ta : AA) : AE := fun g Q E => to g (fun r1 g1 => match vwp r1 with
  | some (i, .ls es0, pl) => i = I ∧ T2.contains i = false ∧ ta g1 (fun rs g2 => match takes rs with
    | some ds => m es0 ds fun d es' => Q (.p d) (g2.set i (some (pl (.ls es'))))
    | none => False) E
  | _ => False) E
def rMr (I : Nat) (T2 : List Nat) (m : Mop) (to : AE) (ta : AA) : AE := fun g Q E => to g (fun r1 g1 => match vwp r1 with
  | some (i, .ls es0, pl) => i = I ∧ T2.contains i = false ∧ ta g1 (fun rs g2 => match datL dat rs with
    | some ds => m es0 ds fun d es' => Q (.p d) (g2.set i (some (pl (.ls es'))))
    | none => False) E
  | _ => False) E
section
variable {X : Cx} {W : WX} {B T T1 T2 T3 : List Nat} {o e : Expr} {es : List Expr} {to te ti : AE} {ta : AA} {name : Str} {apos cpos pos : Pos} {id : String} {r : V → List V → Hp → VK → Prop} {m : Mop}
theorem lift_mt {I : Nat} (hm : MOk X.K r m) {σ : L2.St} {H : Hp} {Q : VK} (h : lift X.K W (T1 ++ (T2 ++ [I])) (rMt I T2 m to ta) σ H Q) :
    tBM X.K "list" r (lift X.K W T1 to) (liftA X.K W T2 ta) σ H Q := by
  obtain ⟨Z, g, w, q, E, S, h, ok, ex⟩ := h
  refine ⟨Z, g, w, _, E, S, h, fun r1 v1 Z1 H1 g1 w1 f1 q1 O1 => ?_, ex.of⟩
  have ex1 := ex.then O1.ps
  split at q1
  · rename_i i es0 pl ev
    obtain ⟨rfl, hT, q1⟩ := q1
    obtain ⟨a, xs, rfl, hx, rx⟩ := (O1.rr.vwp ev).at
    refine ⟨.inl ⟨rfl, _, .of hx⟩, Z1, g1, w1, _, E, O1.so, q1, fun rs vs Z2 H2 g2 w2 f2 q2 O2 => ?_, ex1.of⟩
    cases et : takes rs with
    | none => rw [et] at q2; exact q2.elim
    | some ds =>
      rw [et] at q2
      have O3 := O1.cons O2 (grd_vwp ev hT)
      have vw := (O3.rr.vwp ev)
      have L := O3.let
      have ef : f1 = [] := by
        have := O1.rr.tail ev
        cases this; rfl
      subst ef
      have tk := O2.rr.take et
      rw [List.nil_append] at L
      have vwL := vw.kp (Z1 := fun a => Z2 a ∨ a ∈ f2) (H1 := H2) Kp.or (fun _ _ => rfl) rfl rfl
      obtain ⟨a', xs', ea, hx', rx'⟩ := vwL.at
      cases ea
      refine hm _ H2 a xs' es0 vs ds _ Q hx' rx' tk q2 fun v d xs2 es2 kk hv rx2 => ?_
      obtain ⟨S4, P4⟩ := vwL.lst (xs := xs') L.so rx2
      have kp4 := P4.kp L.so
      refine ok _ v _ _ _ _ [] kk ⟨S4, ?_, .p (hv.kp kp4) .nil, List.nodup_nil, fun _ m => absurd m (by simp), fun _ m => absurd m (by simp), fun _ m => absurd m (by simp), fun _ m => absurd m (by simp)⟩
      exact (L.ps.trans P4).mono fun j hj => by
        simp only [List.mem_append] at hj ⊢
        rcases hj with (hj | hj) | hj
        · exact .inl hj
        · exact .inr (.inl hj)
        · exact .inr (.inr hj)
  · exact q1.elim
theorem lift_mr {I : Nat} (hm : MOr X.K r m) {σ : L2.St} {H : Hp} {Q : VK} (h : lift X.K W (T1 ++ (T2 ++ [I])) (rMr I T2 m to ta) σ H Q) :
    tBM X.K "list" r (lift X.K W T1 to) (liftA X.K W T2 ta) σ H Q := by
  obtain ⟨Z, g, w, q, E, S, h, ok, ex⟩ := h
  refine ⟨Z, g, w, _, E, S, h, fun r1 v1 Z1 H1 g1 w1 f1 q1 O1 => ?_, ex.of⟩
  have ex1 := ex.then O1.ps
  split at q1
  · rename_i i es0 pl ev
    obtain ⟨rfl, hT, q1⟩ := q1
    obtain ⟨a, xs, rfl, hx, rx⟩ := (O1.rr.vwp ev).at
    refine ⟨.inl ⟨rfl, _, .of hx⟩, Z1, g1, w1, _, E, O1.so, q1, fun rs vs Z2 H2 g2 w2 f2 q2 O2 => ?_, ex1.of⟩
    cases et : datL dat rs with
    | none => rw [et] at q2; exact q2.elim
    | some ds =>
      rw [et] at q2
      have O3 := O1.cons O2 (grd_vwp ev hT)
      have vw := (O3.rr.vwp ev)
      obtain ⟨a', xs', ea, hx', rx'⟩ := vw.at
      cases ea
      refine hm _ H2 a xs' es0 vs ds _ Q hx' rx' (O2.rr.t et) q2 fun v d xs2 es2 kk hv rx2 => ?_
      obtain ⟨S4, P4⟩ := vw.lst (xs := xs') O3.so rx2
      have kp4 := P4.kp O3.so
      refine ok _ v _ _ _ _ [] kk ⟨S4, ?_, .p (hv.kp kp4) .nil, List.nodup_nil, fun _ m => absurd m (by simp), fun _ m => absurd m (by simp), fun _ m => absurd m (by simp), fun _ m => absurd m (by simp)⟩
      exact (O3.ps.trans P4).mono fun j hj => by
        simp only [List.mem_append] at hj ⊢
        rcases hj with (hj | hj) | hj
        · exact .inl hj
        · exact .inr (.inl hj)
        · exact .inr (.inr hj)
  · exact q1.elim
theorem je_mt (I : Nat) (slot : Slot "list" name id) (hty : typeOf (.builtin id) = pure (.type "method_descriptor")) (hr : MtR X id r) (hm : MOk X.K r m) (ho : JE X W T1 o to) (ha : JA X W T2 (e :: es) ta)
    (hbase : attributeBase o name X.env (eval o X.env) = eval o X.env := by rfl)
    (hfew : ((backTo cpos (starEach (e :: es) X.env)).all (fun x => !x.1) && (backToKw cpos (keywordEach [] X.env)).all (fun x => x.1.isSome)
      && decide ((e :: es).length + ([] : List Keyword).length + (if ([] : List Keyword).isEmpty then 0 else 1) < 30)) = true := by rfl)
    (hline : (apos.endLine == cpos.line) = true := by rfl) (hs : starEach (e :: es) X.env = (false, eval e X.env) :: starEach es X.env := by rfl) (hplain : (backTo cpos (starEach es X.env)).any (·.1) = false := by rfl) :
    JE X W (T1 ++ (T2 ++ [I])) (.Call (.Attribute o name apos) (e :: es) [] cpos) (rMt I T2 m to ta) :=
  ⟨PEi (pe_bm PySem.F.plainAttrs_list slot hty hr ho.pe ha.pa hbase hfew hline hs hplain) fun σ H Q h => lift_mt hm h⟩
theorem je_mr (I : Nat) (slot : Slot "list" name id) (hty : typeOf (.builtin id) = pure (.type "method_descriptor")) (hr : MtR X id r) (hm : MOr X.K r m) (ho : JE X W T1 o to) (ha : JA X W T2 (e :: es) ta)
    (hbase : attributeBase o name X.env (eval o X.env) = eval o X.env := by rfl)
    (hfew : ((backTo cpos (starEach (e :: es) X.env)).all (fun x => !x.1) && (backToKw cpos (keywordEach [] X.env)).all (fun x => x.1.isSome)
      && decide ((e :: es).length + ([] : List Keyword).length + (if ([] : List Keyword).isEmpty then 0 else 1) < 30)) = true := by rfl)
    (hline : (apos.endLine == cpos.line) = true := by rfl) (hs : starEach (e :: es) X.env = (false, eval e X.env) :: starEach es X.env := by rfl) (hplain : (backTo cpos (starEach es X.env)).any (·.1) = false := by rfl) :
    JE X W (T1 ++ (T2 ++ [I])) (.Call (.Attribute o name apos) (e :: es) [] cpos) (rMr I T2 m to ta) :=
  ⟨PEi (pe_bm PySem.F.plainAttrs_list slot hty hr ho.pe ha.pa hbase hfew hline hs hplain) fun σ H Q h => lift_mr hm h⟩
theorem je_mt0 (I : Nat) (slot : Slot "list" name id) (hty : typeOf (.builtin id) = pure (.type "method_descriptor")) (hr : MtR X id r) (hm : MOk X.K r m) (ho : JE X W T1 o to)
    (hbase : attributeBase o name X.env (eval o X.env) = eval o X.env := by rfl) (hline : (apos.endLine == cpos.line) = true := by rfl) :
    JE X W (T1 ++ ([] ++ [I])) (.Call (.Attribute o name apos) [] [] cpos) (rMt I [] m to aNil) := by
  refine ⟨PEi (pe_bm0 PySem.F.plainAttrs_list slot hty hr ho.pe hbase hline) fun σ H Q h => ?_⟩
  obtain ⟨Z, g, w, q, E, S, h, ok, ex⟩ := lift_mt (T2 := []) hm h
  refine ⟨Z, g, w, q, E, S, h, fun r1 v1 Z1 H1 g1 w1 f1 q1 O1 => ?_, ex⟩
  obtain ⟨ty, h2⟩ := ok r1 v1 Z1 H1 g1 w1 f1 q1 O1
  obtain ⟨Z2, g2, w2, q2, E2, S2, h2, ok2, ex2⟩ := h2
  exact ⟨ty, ok2 _ _ _ _ _ _ _ h2 (Out.nil S2)⟩
end
/-! append, extend, pop, reverse, clear -/
def mAppend : Mop
  | es, [d], k => es.length < sizeLine ∧ k .none (es ++ [d])
  | _, _, _ => False
def mExtend : Mop
  | es, [.list ds], k => es.length + ds.length ≤ sizeLine ∧ k .none (es ++ ds)
  | _, _, _ => False
def mPop : Mop
  | es, [], k => ∃ d, es[es.length - 1]? = some d ∧ k d es.dropLast
  | _, _, _ => False
def mPopAt : Mop
  | es, [.int i], k => ∃ j d, -(2 ^ 63) ≤ i ∧ i < 2 ^ 63 ∧ seqIndex? i es.length = some j ∧ es[j]? = some d ∧ k d (es.eraseIdx j)
  | _, _, _ => False
def mReverse : Mop
  | es, [], k => k .none es.reverse
  | _, _, _ => False
def mClear : Mop
  | _, [], k => k .none []
  | _, _, _ => False
section
variable {K : PySem.W.Frag} {Z : ZS} {H : Hp}
theorem PDs.one {vs : List V} {d : D} (h : PDs K Z H vs [d]) : ∃ v, vs = [v] ∧ PD K Z H v d := by
  cases h with
  | cons h r => cases r; exact ⟨_, rfl, h⟩
theorem PDs.zero {vs : List V} (h : PDs K Z H vs []) : vs = [] := by cases h; rfl
theorem PDs.rev : ∀ {vs : List V} {ds : List D}, PDs K Z H vs ds → PDs K Z H vs.reverse ds.reverse
  | _, _, .nil => .nil
  | _, _, .cons h r => by
    rw [List.reverse_cons, List.reverse_cons]
    exact (PDs.rev r).append (.cons h .nil)
theorem PDs.dropLast : ∀ {vs : List V} {ds : List D}, PDs K Z H vs ds → PDs K Z H vs.dropLast ds.dropLast := fun {vs ds} r => by
  rw [List.dropLast_eq_take, List.dropLast_eq_take, r.length]
  exact r.take _
theorem PDs.eraseIdx : ∀ {vs : List V} {ds : List D} (n : Nat), PDs K Z H vs ds → PDs K Z H (vs.eraseIdx n) (ds.eraseIdx n)
  | _, _, _, .nil => .nil
  | _, _, 0, .cons _ r => r
  | _, _, n + 1, .cons h r => .cons h (PDs.eraseIdx n r)
theorem ok_append : MOk K rAppend mAppend := by
  intro Z H a xs es vs ds k Q hx rx rv h ret
  unfold mAppend at h
  split at h
  · obtain ⟨v, rfl, hv⟩ := rv.one
    exact ⟨a, xs, v, rfl, rfl, hx, by rw [rx.length]; exact h.1, ret .non .none _ _ h.2 .non (rx.append (.cons hv .nil))⟩
  · exact h.elim
theorem ok_extend : MOr K rExtend mExtend := by
  intro Z H a xs es vs ds k Q hx rx rv h ret
  unfold mExtend at h
  split at h
  · obtain ⟨v, rfl, ⟨b, ys, rfl, hy, ry⟩⟩ := all2_1 rv
    exact ⟨a, b, xs, ys, rfl, rfl, hx, hy, by rw [rx.length, ry.length]; exact h.1, ret .non .none _ _ h.2 .non (rx.append ry)⟩
  · exact h.elim
theorem ok_pop : MOk K rPop mPop := by
  intro Z H a xs es vs ds k Q hx rx rv h ret
  unfold mPop at h
  split at h
  · obtain ⟨d, hd, hk⟩ := h
    obtain ⟨v, hv, pv⟩ := rx.get hd
    exact ⟨a, xs, v, rfl, rv.zero, hx, by rw [rx.length]; exact hv, ret v d _ _ hk pv rx.dropLast⟩
  · exact h.elim
theorem ok_popAt : MOk K rPopAt mPopAt := by
  intro Z H a xs es vs ds k Q hx rx rv h ret
  unfold mPopAt at h
  split at h
  · obtain ⟨j, d, h1, h2, h3, hd, hk⟩ := h
    obtain ⟨v, rfl, hv⟩ := rv.one
    obtain ⟨u, hu, pu⟩ := rx.get hd
    cases hv
    exact ⟨a, xs, _, j, u, rfl, rfl, hx, h1, h2, by rw [rx.length]; exact h3, hu, ret u d _ _ hk pu (rx.eraseIdx j)⟩
  · exact h.elim
theorem ok_reverse : MOk K rReverse mReverse := by
  intro Z H a xs es vs ds k Q hx rx rv h ret
  unfold mReverse at h
  split at h
  · exact ⟨a, xs, rfl, rv.zero, hx, ret .non .none _ _ h .non rx.rev⟩
  · exact h.elim
theorem ok_clear : MOk K rClear mClear := by
  intro Z H a xs es vs ds k Q hx rx rv h ret
  unfold mClear at h
  split at h
  · exact ⟨a, xs, rfl, rv.zero, hx, ret .non .none _ _ h .non .nil⟩
  · exact h.elim
end
/-! ### 16. x[i] = e, x a list of plain data -/
def sSetL (I : Nat) (T2 T3 : List Nat) (te to ti : AE) : AS := fun N g => te g (fun r g1 => grd r (T2 ++ T3) (to g1 (fun ro g2 => match vwp ro with
  | some (i, .ls es0, pl) => i = I ∧ T3.contains i = false ∧ ti g2 (fun ri g3 => match takes [r], ri with
    | some [d], .p (.int k) => ∃ j, ixN es0.length k = some j ∧ N.nx (g3.set i (some (pl (.ls (es0.set j d)))))
    | _, _ => False) N.ex
  | _ => False) N.ex)) N.ex
section
variable {X : Cx} {W : WX} {B T T1 T2 T3 : List Nat} {o i e : Expr} {to te ti : AE} {pos pos' : Pos}
theorem js_setL (I : Nat) (he : JE X W T1 e te) (ho : JE X W T2 o to) (hi : JE X W T3 i ti)
    (ha : ∀ v, assign (.Subscript o i pos') X.env v = (do
      let ov ← holding [v] (eval o X.env)
      let iv ← holding [v, ov] (eval i X.env)
      standAt pos'
      holding [v, ov, iv] (setItem ov iv v)
      release [v, ov, iv] []) := by intro _; rfl)
    (hs : swapsWithSole [.Subscript o i pos'] e pos.line X.env = pure false := by rfl) (hw : swappedStores [.Subscript o i pos'] e X.env = pure none := by rfl)
    (h1 : (assignEach [.Subscript o i pos'] X.env).map (·.2) = [assign (.Subscript o i pos') X.env] := by rfl) :
    JS X W B (T1 ++ (T2 ++ (T3 ++ [I]))) (.Assign [.Subscript o i pos'] e pos) (sSetL I T2 T3 te to ti) := by
  refine ⟨PSi (ps_asg he.pe (pg_sub ho.pe hi.pe set_list ha) hs hw h1) fun D σ H ⟨Z, g, w, N, S, h, ok, rt, ex⟩ => ?_⟩
  refine ⟨Z, g, w, _, N.ex, S, h, fun r v Z1 H1 g1 w1 f1 q1 O1 => ?_, ex.e app_l⟩
  obtain ⟨gr, q1⟩ := grd.get q1
  have ex1 := ex.then (O1.fin (B := B))
  refine ⟨Z1, g1, w1, _, N.ex, O1.so, q1, fun ro vo Z2 H2 g2 w2 f2 q2 O2 => ?_, ex1.e app_l⟩
  have ex2 := ex1.then (O2.fin (B := B))
  split at q2
  · rename_i i es0 pl ev
    obtain ⟨rfl, hT, q2⟩ := q2
    refine ⟨Z2, g2, w2, _, N.ex, O2.so, q2, fun ri vi Z3 H3 g3 w3 f3 q3 O3 => ?_, ex2.e app_l⟩
    split at q3
    · rename_i d k et
      obtain ⟨j, hj, q3⟩ := q3
      have O4 := O2.cons O3 (grd_vwp ev hT)
      have gr' : grd r (T2 ++ T3) True := gr
      have O5 := O1.cons O4 gr'
      have ei := PDt.int_i (O3.rr.p1.1).t
      subst ei
      have L := O5.let
      have vw := O4.rr.vwp ev
      have ef : f2 = [] := by
        have := O2.rr.tail ev
        cases this; rfl
      subst ef
      have tk := O1.take2 O4 et (f := f1 ++ ([] ++ f3)) app_mem
      have vwL := vw.kp (Z1 := fun a => Z3 a ∨ a ∈ f1 ++ ([] ++ f3)) (H1 := H3) Kp.or (fun _ _ => rfl) rfl rfl
      obtain ⟨a, xs, ea, hx, rx⟩ := vwL.at
      subst ea
      obtain ⟨v', e1, pv⟩ := tk.one
      cases e1
      refine ⟨a, xs, k, j, rfl, rfl, hx, by rw [rx.length]; exact hj, ?_⟩
      obtain ⟨S4, P4⟩ := vwL.lst (xs := xs) L.so (rx.set j pv)
      refine (ok _ _ _ _ _ ⟨S4, ?_, fun _ _ => rfl, rfl⟩).1 q3
      exact (L.ps.trans P4).mono fun j hj => by
        simp only [List.mem_append] at hj ⊢
        rcases hj with (hj | hj | hj) | hj
        · exact .inl hj
        · exact .inr (.inl hj)
        · exact .inr (.inr (.inl hj))
        · exact .inr (.inr (.inr hj))
    · exact q3.elim
  · exact q2.elim
end
end VL

namespace VL
open PySem PySem.Spec L2

/-! ### 17. What a def promises: of its arguments' things, its answer and what they are behind; what it raises -/
abbrev KO := R → List O → Prop
abbrev KX := Addr → List (Str × D) → List O → Prop
abbrev ASp := List O → KO → KX → Prop
def LSp (K : PySem.W.Frag) (B : List Nat) (sp : ASp) : Sp := fun vs H Q E => ∃ Z os w k kx, SO K Z H (vs.map some) (os.map some) w ∧ os.length = vs.length ∧ (∀ i, i ∉ B → w i = []) ∧ sp os k kx ∧
  (∀ r v Z' H' os' w' f, k r os' → Out K B Z H (os.map some) w (vs.map some) Z' H' (os'.map some) w' [r] [v] f → os'.length = os.length → Q v H') ∧
  (∀ C fs d Z' H' os' w', kx C fs os' → SO K Z' H' (vs.map some) (os'.map some) w' → Pst B Z H (os.map some) w Z' H' (os'.map some) w' → XD K Z' H' d fs → os'.length = os.length → E (.ref C) d H')
/-- what the arguments are behind: those of B as the names hold them, the others as they were -/
def outs (B : List Nat) : Nat → List O → Gm → Option (List O)
  | _, [], _ => some []
  | i, o :: os, g => match (if B.contains i = true then (match g[i]? with | some (some o') => some o' | _ => none) else some o), outs B (i + 1) os g with
    | some o', some os' => some (o' :: os')
    | _, _ => none
def endR (B : List Nat) (os : List O) (k : KO) : R → Gm → Prop := fun r g => match outs B 0 os g with
  | some os' => match r with
    | .p d => k (.p d) os'
    | .ow o => k (.ow o) os'
    | _ => False
  | none => False
def endX (B : List Nat) (os : List O) (k : KX) : EX := fun C fs g => match outs B 0 os g with
  | some os' => k C fs os'
  | none => False
def AN.of (B : List Nat) (os : List O) (k : KO) (kx : KX) : AN := ⟨fun g => endR B os k (.p .none) g, endR B os k, fun _ => False, fun _ => False, endX B os kx⟩
theorem outs_get {B : List Nat} {g : Gm} : ∀ {n : Nat} {os os' : List O}, outs B n os g = some os' → os'.length = os.length ∧ ∀ i o, os[i]? = some o → ∃ o', os'[i]? = some o' ∧ ((n + i ∈ B → g[n + i]? = some (some o')) ∧ (n + i ∉ B → o' = o))
  | n, [], os', e => by
    cases e
    exact ⟨rfl, fun i o h => by simp at h⟩
  | n, o :: os, os', e => by
    unfold outs at e
    cases e1 : (if B.contains n = true then (match g[n]? with | some (some o') => some o' | _ => none) else some o) with
    | none => rw [e1] at e; simp at e
    | some o1 =>
      cases e2 : outs B (n + 1) os g with
      | none => rw [e1, e2] at e; simp at e
      | some t =>
        rw [e1, e2] at e
        cases e
        obtain ⟨h1, h2⟩ := outs_get e2
        refine ⟨by simp [h1], fun i oo h => ?_⟩
        cases i with
        | zero =>
          simp only [List.getElem?_cons_zero, Option.some.injEq] at h
          subst h
          refine ⟨o1, rfl, fun hB => ?_, fun hB => ?_⟩
          · rw [if_pos (by simpa using hB)] at e1
            rw [Nat.add_zero]
            split at e1
            · rename_i eg
              cases e1
              exact eg
            · cases e1
          · rw [if_neg (by simpa using hB)] at e1
            cases e1
            rfl
        | succ i =>
          simp only [List.getElem?_cons_succ] at h
          obtain ⟨o', g1, g2⟩ := h2 i oo h
          refine ⟨o', by simpa using g1, ?_⟩
          rw [show n + (i + 1) = n + 1 + i by omega]
          exact g2
section
variable {K : PySem.W.Frag} {B T : List Nat} {Z Z' : ZS} {H H' : Hp} {w w' : Ow} {os os' : List O} {vs : List V} {σ' : L2.St} {g' : Gm} {N : List Str}
/-- behind a body: the arguments' things as the caller sees them -/
theorem body_end (S : SO K Z H (vs.map some) (os.map some) w) (hl : os.length = vs.length) (hw : ∀ i, i ∉ B → w i = []) (S' : SO K Z' H' σ' g' w') (P : Pst T Z H (os.map some ++ List.replicate (N.length - os.length) none) w Z' H' g' w')
    (sb : ∀ i ∈ B, σ'[i]? = (L2.start N vs)[i]?) (e : outs B 0 os g' = some os') :
    os'.length = os.length ∧ SO K Z' H' (vs.map some) (os'.map some) (fun i => if i ∈ B ∧ i < os.length then w' i else []) ∧ Pst B Z H (os.map some) w Z' H' (os'.map some) (fun i => if i ∈ B ∧ i < os.length then w' i else []) := by
  obtain ⟨l1, get⟩ := outs_get e
  have wB : ∀ i a, a ∈ w i → i ∈ B := fun i a m => by
    by_cases h : i ∈ B
    · exact h
    · rw [hw i h] at m; simp at m
  have kp : Kp Z Z' H H' := fun a z => ⟨P.zm a z, P.only a (S.zal a z) fun i _ m => S.nz i a m z⟩
  refine ⟨l1, ⟨by simp [l1, hl], fun i o' ei => ?_, fun i => ?_, fun i j a mi mj => ?_, fun i a m => ?_, fun i a m => ?_, S'.zal⟩, ⟨P.zm, fun a ha h => P.only a ha fun i _ m => h i (wB i a m) m, P.al, fun a z => (P.zn a z).imp id fun z => z.imp id fun ⟨i, _, m⟩ => ⟨i, wB i a m, m⟩, fun i hi => ?_, fun i hi => ?_, fun i hi a m => ?_⟩⟩
  · rw [List.getElem?_map] at ei
    cases e1 : os'[i]? with
    | none => rw [e1] at ei; cases ei
    | some o1 =>
      rw [e1] at ei
      cases ei
      have hi : i < os.length := by
        have := (List.getElem?_eq_some_iff.mp e1).1
        omega
      obtain ⟨o2, g1, g2, g3⟩ := get i os[i] (List.getElem?_eq_getElem hi)
      rw [e1] at g1
      cases g1
      have hiv : i < vs.length := by omega
      have ev : (vs.map some)[i]? = some (some vs[i]) := by simp [hiv]
      by_cases hB : i ∈ B
      · obtain ⟨v, h1, h2⟩ := S'.rep i _ (by simpa using g2 (by simpa using hB))
        have : (L2.start N vs)[i]? = some (some vs[i]) := by
          unfold L2.start
          rw [List.getElem?_append_left (by simpa using hiv)]
          exact ev
        rw [sb i hB, this] at h1
        cases h1
        refine ⟨_, ev, ?_⟩
        rw [if_pos ⟨hB, hi⟩]
        exact h2
      · have := g3 (by simpa using hB)
        subst this
        obtain ⟨v, h1, h2⟩ := S.rep i os[i] (by simp [hi])
        refine ⟨v, h1, ?_⟩
        rw [if_neg fun h => hB h.1]
        rw [hw i hB] at h2
        exact h2.kp kp fun _ m => absurd m (by simp)
  · show (if i ∈ B ∧ i < os.length then w' i else []).Nodup
    split
    · exact S'.nd i
    · exact List.nodup_nil
  · have mi : a ∈ if i ∈ B ∧ i < os.length then w' i else [] := mi
    have mj : a ∈ if j ∈ B ∧ j < os.length then w' j else [] := mj
    split at mi <;> split at mj <;> first | exact absurd mi (by simp) | exact absurd mj (by simp) | exact S'.dj i j a mi mj
  · have m : a ∈ if i ∈ B ∧ i < os.length then w' i else [] := m
    split at m
    · exact S'.nz i a m
    · exact absurd m (by simp)
  · have m : a ∈ if i ∈ B ∧ i < os.length then w' i else [] := m
    split at m
    · exact S'.wal i a m
    · exact absurd m (by simp)
  · rw [List.getElem?_map, List.getElem?_map]
    by_cases hl2 : i < os.length
    · obtain ⟨o2, g1, g2, g3⟩ := get i os[i] (List.getElem?_eq_getElem hl2)
      have := g3 (by simpa using hi)
      subst this
      rw [g1, List.getElem?_eq_getElem hl2]
    · rw [List.getElem?_eq_none (by omega), List.getElem?_eq_none (by omega)]
  · show (if i ∈ B ∧ i < os.length then w' i else []) = w i
    rw [if_neg fun h => hi h.1, hw i hi]
  · have m : a ∈ if i ∈ B ∧ i < os.length then w' i else [] := m
    split at m
    · by_cases hT : i ∈ T
      · exact (P.src i hT a m).imp id fun ⟨j, _, mj⟩ => ⟨j, wB j a mj, mj⟩
      · rw [P.fw i hT] at m
        exact .inr ⟨i, hi, m⟩
    · exact absurd m (by simp)
end
/-- what is wanted of an exception that leaves a def -/
abbrev wE (E : XK) : WX := fun cls d _ H => E cls d H
abbrev FnV (P : Program) (w : World) (K : PySem.W.Frag) (mg : Str → Option Value) (base : Heap) (k : Nat) (f : Addr) (fd : FuncData) (ps : List Str) (B : List Nat) (sp : ASp) : Prop := FnG P w K mg base k f fd ps (LSp K B sp)
theorem FnV.of {P : Program} {w : World} {K : PySem.W.Frag} {mg : Str → Option Value} {base : Heap} {x qual : Str} {st : Stmt} {f : Addr} {fd : FuncData} {N ps : List Str} {k : Nat} {B : List Nat} {sp : ASp}
    (F : Fun K x qual st f fd) (S : FnScope N ps (defScope st)) (len : ∀ os k kx, sp os k kx → os.length = ps.length)
    (body : ∀ (cdv : Value) (A : Around) (outer : List Env) (s : Shared) (H : Hp) (E : XK), A.guards = some [] → Room k (A.deeper (PyProof.Rows.envOfC qual (defScope st) s.heap.objs.size f cdv)) →
      ∃ T t, JSs (cxOf (L2.CX P w) P w K mg base N qual (defScope st) f cdv A outer s H E) (wE E) B T (defBody st) t ∧
        ∀ os kk kx, sp os kk kx → t (AN.of B os kk kx) (os.map some ++ List.replicate (N.length - os.length) none)) :
    FnV P w K mg base (k + 1) f fd ps B sp := by
  refine FnG.of F S (fun vs H Q E ⟨Z, os, w, k, kx, _, e, _, h, _⟩ => e ▸ len os k kx h) ?_
  intro cdv A outer s H vs Q E hg hr ⟨Z, os, w, kk, kx, SS, hl, hw, hsp, ok, okx⟩
  obtain ⟨T, t, ht, hq⟩ := body cdv A outer s H E hg hr
  refine ⟨_, ht.ps, Z, _, w, _, ?_, hq os kk kx hsp, ?_, ?_, ?_⟩
  · -- the start
    refine ⟨?_, fun i o ei => ?_, SS.nd, SS.dj, SS.nz, SS.wal, SS.zal⟩
    · unfold L2.start
      simp [hl]
    · have hi : i < os.length := by
        by_cases hi : i < os.length
        · exact hi
        · rw [List.getElem?_append_right (by simpa using hi), List.getElem?_replicate] at ei
          split at ei <;> cases ei
      rw [List.getElem?_append_left (by simpa using hi)] at ei
      obtain ⟨v, h1, h2⟩ := SS.rep i o ei
      refine ⟨v, ?_, h2⟩
      unfold L2.start
      rw [List.getElem?_append_left (by simpa [hl] using hi)]
      exact h1
  · intro Z' H' g' w' σ' F'
    refine ⟨fun q => ?_, fun q => q.elim, fun q => q.elim⟩
    have q : endR B os kk (.p .none) g' := q
    unfold endR at q
    cases e : outs B 0 os g' with
    | none => rw [e] at q; exact q.elim
    | some os' =>
      rw [e] at q
      obtain ⟨l1, S1, P1⟩ := body_end SS hl hw F'.so F'.ps F'.sb e
      exact ok _ _ Z' H' os' _ [] q ⟨S1, P1, RRs.p .non .nil, List.nodup_nil, fun _ m => absurd m (by simp), fun _ m => absurd m (by simp), fun _ m => absurd m (by simp), fun _ m => absurd m (by simp)⟩ l1
  · intro r v Z' H' g' w' σ' f q O' sb
    have q : endR B os kk r g' := q
    unfold endR at q
    cases e : outs B 0 os g' with
    | none => rw [e] at q; exact q.elim
    | some os' =>
      rw [e] at q
      obtain ⟨l1, S1, P1⟩ := body_end SS hl hw O'.so O'.ps sb e
      have dw : ∀ a ∈ f, ∀ i, a ∉ (fun i => if i ∈ B ∧ i < os.length then w' i else []) i := fun a m i mi => by
        have mi : a ∈ if i ∈ B ∧ i < os.length then w' i else [] := mi
        split at mi
        · exact O'.dw a m i mi
        · exact absurd mi (by simp)
      have sr : ∀ a ∈ f, H a = none ∨ ∃ j ∈ B, a ∈ w j := fun a m => (O'.sr a m).imp id fun ⟨j, _, mj⟩ => ⟨j, by
        by_cases h : j ∈ B
        · exact h
        · rw [hw j h] at mj; simp at mj, mj⟩
      cases r with
      | p d =>
        have rr := O'.rr.p1
        exact ok _ _ Z' H' os' _ f q ⟨S1, P1, by rw [rr.2]; exact RRs.p rr.1 .nil, O'.nd, O'.dz, dw, O'.fal, sr⟩ l1
      | ow o =>
        have rr : RO K Z' H' o v f := O'.rr.own rfl
        exact ok _ _ Z' H' os' _ f q ⟨S1, P1, by simpa using RRs.ow (σ := vs.map some) (g := os'.map some) (w := fun i => if i ∈ B ∧ i < os.length then w' i else []) rr .nil, O'.nd, O'.dz, dw, O'.fal, sr⟩ l1
      | sl _ _ => exact q.elim
      | vw _ _ _ => exact q.elim
  · intro C fs d Z' H' g' w' σ' q F' xd
    have q : endX B os kx C fs g' := q
    unfold endX at q
    cases e : outs B 0 os g' with
    | none => rw [e] at q; exact q.elim
    | some os' =>
      rw [e] at q
      obtain ⟨l1, S1, P1⟩ := body_end SS hl hw F'.so F'.ps F'.sb e
      exact okx C fs d Z' H' os' _ q S1 P1 xd l1
/-! ### 18. A call of such a def -/
def toO : R → O
  | .p d => .p d
  | .sl _ o => o
  | .vw _ o _ => o
  | .ow o => o
def ownless : O → Bool
  | .p _ => true
  | .val _ => true
  | .exc _ _ _ _ => true
  | .fl _ => true
  | _ => false
/-- the names whose things are handed on are of C, each once; what is owned goes to places of B -/
def argsOk (B C : List Nat) : Nat → List R → List Nat → Bool
  | _, [], _ => true
  | n, .p _ :: rs, m => argsOk B C (n + 1) rs m
  | n, .sl j o :: rs, m => C.contains j && !m.contains j && (ownless o || B.contains n) && argsOk B C (n + 1) rs (j :: m)
  | n, .ow _ :: rs, m => B.contains n && argsOk B C (n + 1) rs m
  | _, .vw _ _ _ :: _, _ => false
/-- behind the call the names hold what the arguments are then -/
def wb : List R → List O → Gm → Gm
  | .sl j _ :: rs, o :: os, g => wb rs os (g.set j (some o))
  | _ :: rs, _ :: os, g => wb rs os g
  | _, _, g => g
def rCall (B C : List Nat) (sp : ASp) (ta : AA) : AE := fun g Q E => ta g (fun rs g1 => argsOk B C 0 rs [] = true ∧ sp (rs.map toO) (fun r os' => match r with
  | .p d => Q (.p d) (wb rs os' g1)
  | .ow o => Q (.ow o) (wb rs os' g1)
  | _ => False) (fun c fs os' => E c fs (wb rs os' g1))) E
/-- which argument is the name j -/
def ixOf (j : Nat) : Nat → List R → Option Nat
  | _, [] => none
  | n, .sl i _ :: rs => if i = j then some n else ixOf j (n + 1) rs
  | n, _ :: rs => ixOf j (n + 1) rs
theorem ixOf_sl {j k n : Nat} {o : O} {rs : List R} : ixOf j n (.sl k o :: rs) = if k = j then some n else ixOf j (n + 1) rs := rfl
theorem ixOf_some {j : Nat} : ∀ {n : Nat} {rs : List R} {i : Nat}, ixOf j n rs = some i → ∃ o, n ≤ i ∧ rs[i - n]? = some (.sl j o)
  | n, [], i, e => by cases e
  | n, .p d :: rs, i, e => by
    obtain ⟨o, h1, h2⟩ := ixOf_some (n := n + 1) (rs := rs) e
    exact ⟨o, by omega, by rw [show i - n = (i - (n + 1)) + 1 by omega]; simpa using h2⟩
  | n, .vw _ _ _ :: rs, i, e => by
    obtain ⟨o, h1, h2⟩ := ixOf_some (n := n + 1) (rs := rs) e
    exact ⟨o, by omega, by rw [show i - n = (i - (n + 1)) + 1 by omega]; simpa using h2⟩
  | n, .ow _ :: rs, i, e => by
    obtain ⟨o, h1, h2⟩ := ixOf_some (n := n + 1) (rs := rs) e
    exact ⟨o, by omega, by rw [show i - n = (i - (n + 1)) + 1 by omega]; simpa using h2⟩
  | n, .sl k o :: rs, i, e => by
    unfold ixOf at e
    split at e
    · rename_i h
      cases e
      subst h
      exact ⟨o, Nat.le_refl _, by simp⟩
    · obtain ⟨o, h1, h2⟩ := ixOf_some (n := n + 1) (rs := rs) e
      exact ⟨o, by omega, by rw [show i - n = (i - (n + 1)) + 1 by omega]; simpa using h2⟩
theorem argsOk_sl {B C : List Nat} : ∀ {n : Nat} {rs : List R} {m : List Nat} {i j : Nat} {o : O}, argsOk B C n rs m = true → rs[i]? = some (.sl j o) → j ∈ C ∧ j ∉ m ∧ (ownless o = true ∨ n + i ∈ B) ∧ ixOf j n rs = some (n + i)
  | n, [], m, i, j, o, _, e => by simp at e
  | n, r :: rs, m, 0, j, o, h, e => by
    simp only [List.getElem?_cons_zero, Option.some.injEq] at e
    subst e
    simp only [argsOk, Bool.and_eq_true, Bool.or_eq_true, Bool.not_eq_true'] at h
    refine ⟨by simpa using h.1.1.1, by simpa using h.1.1.2, by simpa using h.1.2, ?_⟩
    simp [ixOf]
  | n, r :: rs, m, i + 1, j, o, h, e => by
    simp only [List.getElem?_cons_succ] at e
    have en : n + (i + 1) = n + 1 + i := by omega
    rw [en]
    cases r with
    | p d => exact argsOk_sl (n := n + 1) (by simpa [argsOk] using h) e
    | vw _ _ _ => simp [argsOk] at h
    | ow o' =>
      simp only [argsOk, Bool.and_eq_true] at h
      exact argsOk_sl (n := n + 1) h.2 e
    | sl k o' =>
      simp only [argsOk, Bool.and_eq_true] at h
      obtain ⟨h1, h2, h3, h4⟩ := argsOk_sl (n := n + 1) h.2 e
      simp only [List.mem_cons, not_or] at h2
      refine ⟨h1, h2.2, h3, ?_⟩
      unfold ixOf
      rw [if_neg (Ne.symm h2.1)]
      exact h4
theorem argsOk_ow {B C : List Nat} : ∀ {n : Nat} {rs : List R} {m : List Nat} {i : Nat} {o : O}, argsOk B C n rs m = true → rs[i]? = some (.ow o) → n + i ∈ B
  | n, [], m, i, o, _, e => by simp at e
  | n, r :: rs, m, 0, o, h, e => by
    simp only [List.getElem?_cons_zero, Option.some.injEq] at e
    subst e
    simp only [argsOk, Bool.and_eq_true] at h
    simpa using h.1
  | n, r :: rs, m, i + 1, o, h, e => by
    simp only [List.getElem?_cons_succ] at e
    rw [show n + (i + 1) = n + 1 + i by omega]
    cases r with
    | p d => exact argsOk_ow (n := n + 1) (by simpa [argsOk] using h) e
    | vw _ _ _ => simp [argsOk] at h
    | ow o' =>
      simp only [argsOk, Bool.and_eq_true] at h
      exact argsOk_ow (n := n + 1) h.2 e
    | sl k o' =>
      simp only [argsOk, Bool.and_eq_true] at h
      exact argsOk_ow (n := n + 1) h.2 e
theorem argsOk_vw {B C : List Nat} : ∀ {n : Nat} {rs : List R} {m : List Nat} {i j : Nat} {o : O} {pl : O → O}, argsOk B C n rs m = true → rs[i]? = some (.vw j o pl) → False
  | n, [], m, i, _, o, _, _, e => by simp at e
  | n, r :: rs, m, 0, _, o, _, h, e => by
    simp only [List.getElem?_cons_zero, Option.some.injEq] at e
    subst e
    simp [argsOk] at h
  | n, r :: rs, m, i + 1, _, o, _, h, e => by
    simp only [List.getElem?_cons_succ] at e
    cases r with
    | p d => exact argsOk_vw (n := n + 1) (by simpa [argsOk] using h) e
    | vw _ _ _ => simp [argsOk] at h
    | ow o' =>
      simp only [argsOk, Bool.and_eq_true] at h
      exact argsOk_vw (n := n + 1) h.2 e
    | sl k o' =>
      simp only [argsOk, Bool.and_eq_true] at h
      exact argsOk_vw (n := n + 1) h.2 e
theorem wb_len : ∀ {rs : List R} {os : List O} {g : Gm}, (wb rs os g).length = g.length
  | [], _, _ => by simp [wb]
  | .p _ :: rs, [], _ => by simp [wb]
  | .sl _ _ :: rs, [], _ => by simp [wb]
  | .vw _ _ _ :: rs, [], _ => by simp [wb]
  | .ow _ :: rs, [], _ => by simp [wb]
  | .p _ :: rs, o :: os, g => by simp only [wb]; exact wb_len
  | .vw _ _ _ :: rs, o :: os, g => by simp only [wb]; exact wb_len
  | .ow _ :: rs, o :: os, g => by simp only [wb]; exact wb_len
  | .sl j _ :: rs, o :: os, g => by simp only [wb]; rw [wb_len, List.length_set]
theorem ixOf_none_of {B C : List Nat} {j : Nat} : ∀ {n : Nat} {rs : List R} {m : List Nat}, argsOk B C n rs m = true → j ∈ m → ixOf j n rs = none
  | n, [], m, _, _ => rfl
  | n, r :: rs, m, h, hm => by
    cases r with
    | p d => exact ixOf_none_of (n := n + 1) (by simpa [argsOk] using h) hm
    | vw _ _ _ => simp [argsOk] at h
    | ow o' =>
      simp only [argsOk, Bool.and_eq_true] at h
      exact ixOf_none_of (n := n + 1) h.2 hm
    | sl k o' =>
      simp only [argsOk, Bool.and_eq_true, Bool.not_eq_true'] at h
      have hk : k ∉ m := by simpa using h.1.1.2
      rw [ixOf_sl, if_neg fun (e : k = j) => hk (by rw [e]; exact hm)]
      exact ixOf_none_of (n := n + 1) h.2 (by simp [hm])
theorem wb_get {B C : List Nat} {j : Nat} : ∀ {n : Nat} {rs : List R} {os : List O} {g : Gm} {m : List Nat}, argsOk B C n rs m = true → os.length = rs.length →
    (wb rs os g)[j]? = match ixOf j n rs with
      | some i => if j < g.length then (os[i - n]?).map some else none
      | none => g[j]?
  | n, [], os, g, m, _, _ => by simp [wb, ixOf]
  | n, r :: rs, [], g, m, _, hl => by simp at hl
  | n, r :: rs, o :: os, g, m, h, hl => by
    have hl' : os.length = rs.length := by simpa using hl
    have idx : ∀ i, ixOf j (n + 1) rs = some i → (os[i - (n + 1)]?) = ((o :: os)[i - n]?) := fun i e => by
      obtain ⟨_, h1, _⟩ := ixOf_some e
      rw [show i - n = (i - (n + 1)) + 1 by omega]
      simp
    cases r with
    | p d =>
      have ih := wb_get (j := j) (n := n + 1) (g := g) (os := os) (by simpa [argsOk] using h) hl'
      simp only [wb, ixOf]
      rw [ih]
      cases e : ixOf j (n + 1) rs with
      | none => rfl
      | some i => simp only [idx i e]
    | vw _ _ _ => simp [argsOk] at h
    | ow o' =>
      simp only [argsOk, Bool.and_eq_true] at h
      have ih := wb_get (j := j) (n := n + 1) (g := g) (os := os) h.2 hl'
      simp only [wb, ixOf]
      rw [ih]
      cases e : ixOf j (n + 1) rs with
      | none => rfl
      | some i => simp only [idx i e]
    | sl k o' =>
      simp only [argsOk, Bool.and_eq_true] at h
      have ih := wb_get (j := j) (n := n + 1) (g := g.set k (some o)) (os := os) h.2 hl'
      simp only [wb]
      rw [ih, ixOf_sl]
      by_cases ek : k = j
      · subst ek
        rw [if_pos rfl, ixOf_none_of h.2 (by simp)]
        simp only [Nat.sub_self, List.getElem?_cons_zero, Option.map_some]
        by_cases hg : k < g.length
        · rw [List.getElem?_set_self hg, if_pos hg]
        · rw [if_neg hg, List.getElem?_eq_none (by simpa using hg)]
      · rw [if_neg ek]
        cases e : ixOf j (n + 1) rs with
        | none => simp only []; rw [List.getElem?_set_ne ek]
        | some i => simp only [idx i e, List.length_set]
end VL

namespace VL
open PySem PySem.Spec L2

/-- each argument with what it owns -/
inductive AF (K : PySem.W.Frag) (Z : ZS) (H : Hp) (σ : L2.St) (w : Ow) : List R → List V → List (List Addr) → List Addr → Prop
  | nil : AF K Z H σ w [] [] [] []
  | p {d : D} {v : V} {rs : List R} {vs : List V} {F : List (List Addr)} {f : List Addr} : PD K Z H v d → AF K Z H σ w rs vs F f → AF K Z H σ w (.p d :: rs) (v :: vs) ([] :: F) f
  | sl {j : Nat} {o : O} {v : V} {rs : List R} {vs : List V} {F : List (List Addr)} {f : List Addr} : σ[j]? = some (some v) → RO K Z H o v (w j) → AF K Z H σ w rs vs F f → AF K Z H σ w (.sl j o :: rs) (v :: vs) (w j :: F) f
  | ow {o : O} {v : V} {rs : List R} {vs : List V} {F : List (List Addr)} {f1 f : List Addr} : RO K Z H o v f1 → AF K Z H σ w rs vs F f → AF K Z H σ w (.ow o :: rs) (v :: vs) (f1 :: F) (f1 ++ f)
section
variable {K : PySem.W.Frag} {B C T : List Nat} {Z Z1 Z' : ZS} {H H1 H' : Hp} {w w1 w' : Ow} {g g1 : Gm} {os os' : List O} {vs : List V} {σ : L2.St} {rs : List R} {f : List Addr} {F : List (List Addr)}
theorem AF.of (h : RRs K Z H σ g w rs vs f) : ∀ {n : Nat} {m : List Nat}, argsOk B C n rs m = true → ∃ F, AF K Z H σ w rs vs F f := by
  induction h with
  | nil => intro n m _; exact ⟨[], .nil⟩
  | p h _ ih =>
    intro n m e
    obtain ⟨F, h2⟩ := ih (n := n + 1) (m := m) (by simpa [argsOk] using e)
    exact ⟨_, .p h h2⟩
  | sl e1 _ ro _ ih =>
    intro n m e
    simp only [argsOk, Bool.and_eq_true] at e
    obtain ⟨F, h2⟩ := ih e.2
    exact ⟨_, .sl e1 ro h2⟩
  | vw _ _ _ => intro n m e; simp [argsOk] at e
  | ow ro _ ih =>
    intro n m e
    simp only [argsOk, Bool.and_eq_true] at e
    obtain ⟨F, h2⟩ := ih e.2
    exact ⟨_, .ow ro h2⟩
theorem AF.len (h : AF K Z H σ w rs vs F f) : F.length = rs.length ∧ vs.length = rs.length := by
  induction h with
  | nil => exact ⟨rfl, rfl⟩
  | p _ _ ih => exact ⟨by simp [ih.1], by simp [ih.2]⟩
  | sl _ _ _ ih => exact ⟨by simp [ih.1], by simp [ih.2]⟩
  | ow _ _ ih => exact ⟨by simp [ih.1], by simp [ih.2]⟩
theorem AF.get (h : AF K Z H σ w rs vs F f) : ∀ {i : Nat} {r : R}, rs[i]? = some r → ∃ v, vs[i]? = some v ∧ RO K Z H (toO r) v (F.getD i []) ∧
    ((∃ d, r = .p d ∧ F.getD i [] = []) ∨ (∃ j o, r = .sl j o ∧ F.getD i [] = w j ∧ σ[j]? = some (some v)) ∨ ∃ o, r = .ow o ∧ (∀ a ∈ F.getD i [], a ∈ f) ∧ (f.Nodup → (F.getD i []).Nodup)) := by
  induction h with
  | nil => intro i r e; simp at e
  | p h _ ih =>
    intro i r e
    cases i with
    | zero =>
      simp only [List.getElem?_cons_zero, Option.some.injEq] at e
      subst e
      exact ⟨_, rfl, .p h, .inl ⟨_, rfl, rfl⟩⟩
    | succ i => simpa using ih (i := i) (by simpa using e)
  | sl e1 ro _ ih =>
    intro i r e
    cases i with
    | zero =>
      simp only [List.getElem?_cons_zero, Option.some.injEq] at e
      subst e
      exact ⟨_, rfl, ro, .inr (.inl ⟨_, _, rfl, rfl, e1⟩)⟩
    | succ i => simpa using ih (i := i) (by simpa using e)
  | ow ro _ ih =>
    intro i r e
    cases i with
    | zero =>
      simp only [List.getElem?_cons_zero, Option.some.injEq] at e
      subst e
      exact ⟨_, rfl, ro, .inr (.inr ⟨_, rfl, fun a m => by simp only [List.getD_cons_zero] at m; simp [m], fun n => (List.nodup_append.mp n).1⟩)⟩
    | succ i =>
      obtain ⟨v, h1, h2, h3⟩ := ih (i := i) (by simpa using e)
      refine ⟨v, by simpa using h1, by simpa using h2, ?_⟩
      rcases h3 with h3 | h3 | ⟨o, h3, h4, h5⟩
      · exact .inl (by simpa using h3)
      · exact .inr (.inl (by simpa using h3))
      · exact .inr (.inr ⟨o, h3, fun a m => by simp only [List.getD_cons_succ] at m; simp [h4 a m], fun n => by simpa using h5 (List.nodup_append.mp n).2.1⟩)
theorem getD_no {F : List (List Addr)} {i : Nat} (h : F.length ≤ i) : F.getD i [] = [] := by
  rw [List.getD_eq_getElem?_getD, List.getElem?_eq_none h]
  rfl
theorem AF.cell (h : AF K Z H σ w rs vs F f) {i : Nat} {a : Addr} (m : a ∈ F.getD i []) : ∃ r, rs[i]? = some r := by
  by_cases hi : i < rs.length
  · exact ⟨_, List.getElem?_eq_getElem hi⟩
  · rw [getD_no (by rw [h.len.1]; omega)] at m
    simp at m
theorem AF.dj (h : AF K Z H σ w rs vs F f) (nd : f.Nodup) (dw : ∀ a ∈ f, ∀ i, a ∉ w i) (wd : ∀ i j a, a ∈ w i → a ∈ w j → i = j) :
    (∀ (i i' j : Nat) (o o' : O), rs[i]? = some (R.sl j o) → rs[i']? = some (R.sl j o') → i = i') → ∀ i i' a, a ∈ F.getD i [] → a ∈ F.getD i' [] → i = i' := by
  induction h with
  | nil => intro _ i i' a m; simp at m
  | p h hh ih =>
    intro un i i' a m m'
    cases i with
    | zero => simp at m
    | succ i =>
      cases i' with
      | zero => simp at m'
      | succ i' => exact congrArg (· + 1) (ih nd dw (fun i i' j o o' e e' => by simpa using un (i + 1) (i' + 1) j o o' (by simpa using e) (by simpa using e')) i i' a (by simpa using m) (by simpa using m'))
  | @sl j o v rs vs F f e1 ro hh ih =>
    intro un i i' a m m'
    have hd : ∀ k, a ∈ w j → a ∈ F.getD k [] → False := fun k m m' => by
      obtain ⟨r, er⟩ := hh.cell m'
      obtain ⟨v', _, _, h3⟩ := hh.get er
      rcases h3 with ⟨d, _, e⟩ | ⟨j', o', e2, e, _⟩ | ⟨o', _, sub, _⟩
      · rw [e] at m'; simp at m'
      · rw [e] at m'
        have := wd j j' a m m'
        subst this
        subst e2
        have := un 0 (k + 1) j _ _ rfl (by simpa using er)
        omega
      · exact dw a (sub a m') j m
    cases i with
    | zero =>
      cases i' with
      | zero => rfl
      | succ k => exact (hd k (by simpa using m) (by simpa using m')).elim
    | succ i =>
      cases i' with
      | zero => exact (hd i (by simpa using m') (by simpa using m)).elim
      | succ i' => exact congrArg (· + 1) (ih nd dw (fun i i' j o o' e e' => by simpa using un (i + 1) (i' + 1) j o o' (by simpa using e) (by simpa using e')) i i' a (by simpa using m) (by simpa using m'))
  | @ow o v rs vs F f1 f ro hh ih =>
    intro un i i' a m m'
    have nd' := List.nodup_append.mp nd
    have hd : ∀ k, a ∈ f1 → a ∈ F.getD k [] → False := fun k m m' => by
      obtain ⟨r, er⟩ := hh.cell m'
      obtain ⟨v', _, _, h3⟩ := hh.get er
      rcases h3 with ⟨d, _, e⟩ | ⟨j', o', e2, e, _⟩ | ⟨o', _, sub, _⟩
      · rw [e] at m'; simp at m'
      · rw [e] at m'
        exact dw a (by simp [m]) j' m'
      · exact nd'.2.2 a m a (sub a m') rfl
    cases i with
    | zero =>
      cases i' with
      | zero => rfl
      | succ k => exact (hd k (by simpa using m) (by simpa using m')).elim
    | succ i =>
      cases i' with
      | zero => exact (hd i (by simpa using m') (by simpa using m)).elim
      | succ i' => exact congrArg (· + 1) (ih nd'.2.1 (fun a m => dw a (by simp [m])) (fun i i' j o o' e e' => by simpa using un (i + 1) (i' + 1) j o o' (by simpa using e) (by simpa using e')) i i' a (by simpa using m) (by simpa using m'))
theorem argsOk_un {n : Nat} {m : List Nat} (h : argsOk B C n rs m = true) : ∀ (i i' j : Nat) (o o' : O), rs[i]? = some (R.sl j o) → rs[i']? = some (R.sl j o') → i = i' := fun i i' j o o' e e' => by
  have h1 := (argsOk_sl h e).2.2.2
  have h2 := (argsOk_sl h e').2.2.2
  rw [h1] at h2
  have := Option.some.inj h2
  omega
/-- at the call: what the def is handed -/
theorem call_start (O1 : Out K T Z H g w σ Z1 H1 g1 w1 rs vs f) (af : AF K Z1 H1 σ w1 rs vs F f) (ha : argsOk B C 0 rs [] = true) :
    SO K Z1 H1 (vs.map some) ((rs.map toO).map some) (fun i => F.getD i []) ∧ (∀ i, i ∉ B → F.getD i [] = []) := by
  have S := O1.so
  have un := argsOk_un ha
  have kind : ∀ i a, a ∈ F.getD i [] → a ∈ f ∨ ∃ j, a ∈ w1 j := fun i a m => by
    obtain ⟨r, er⟩ := af.cell m
    obtain ⟨v', _, _, h3⟩ := af.get er
    rcases h3 with ⟨d, _, e⟩ | ⟨j', o', e2, e, _⟩ | ⟨o', _, sub, _⟩
    · rw [e] at m; simp at m
    · rw [e] at m; exact .inr ⟨j', m⟩
    · exact .inl (sub a m)
  refine ⟨⟨by simp [af.len.2], fun i o e => ?_, fun i => ?_, af.dj O1.nd O1.dw S.dj un, fun i a m => ?_, fun i a m => ?_, S.zal⟩, fun i hi => ?_⟩
  · rw [List.map_map, List.getElem?_map] at e
    cases er : rs[i]? with
    | none => rw [er] at e; cases e
    | some r =>
      rw [er] at e
      cases e
      obtain ⟨v, h1, h2, _⟩ := af.get er
      exact ⟨v, by rw [List.getElem?_map, h1]; rfl, h2⟩
  · by_cases hi : i < rs.length
    · obtain ⟨v', _, _, h3⟩ := af.get (List.getElem?_eq_getElem hi)
      rcases h3 with ⟨d, _, e⟩ | ⟨j', o', e2, e, _⟩ | ⟨o', _, _, ndi⟩
      · rw [e]; exact List.nodup_nil
      · rw [e]; exact S.nd j'
      · exact ndi O1.nd
    · rw [getD_no (by rw [af.len.1]; omega)]
      exact List.nodup_nil
  · rcases kind i a m with h | ⟨j, h⟩
    · exact O1.dz a h
    · exact S.nz j a h
  · rcases kind i a m with h | ⟨j, h⟩
    · exact O1.fal a h
    · exact S.wal j a h
  · cases hF : F.getD i [] with
    | nil => rfl
    | cons a t =>
      have m : a ∈ F.getD i [] := by rw [hF]; simp
      obtain ⟨r, er⟩ := af.cell m
      obtain ⟨v', _, ro, h3⟩ := af.get er
      rcases h3 with ⟨d, _, e⟩ | ⟨j', o', e2, e, _⟩ | ⟨o', e2, _, _⟩
      · rw [hF] at e; cases e
      · subst e2
        rcases (argsOk_sl ha er).2.2.1 with ol | hB
        · have ro : RO K Z1 H1 o' v' (F.getD i []) := ro
          rw [hF] at ro
          cases o' with
          | p d => exact absurd ro.p_inv.2 (by simp)
          | val v => cases ro
          | fl ns => cases ro
          | exc _ _ _ _ => cases ro
          | _ => cases ol
        · exact absurd (by simpa using hB) hi
      · subst e2
        exact absurd (by simpa using argsOk_ow ha er) hi
/-- behind the call: the names hold what came back -/
theorem call_end (O1 : Out K T Z H g w σ Z1 H1 g1 w1 rs vs f) (af : AF K Z1 H1 σ w1 rs vs F f) (ha : argsOk B C 0 rs [] = true) (hl : os'.length = rs.length)
    (S' : SO K Z' H' (vs.map some) (os'.map some) w') (P' : Pst B Z1 H1 ((rs.map toO).map some) (fun i => F.getD i []) Z' H' (os'.map some) w') :
    ∃ w2 : Ow, SO K Z' H' σ (wb rs os' g1) w2 ∧ Pst (T ++ C) Z H g w Z' H' (wb rs os' g1) w2 ∧
      (∀ a j, a ∈ w2 j → (∃ i, a ∈ w' i) ∨ (a ∈ w1 j ∧ ∀ i, a ∉ F.getD i [])) ∧ (∀ a, (H1 a = none ∨ ∃ i ∈ B, a ∈ F.getD i []) → H a = none ∨ ∃ j ∈ T ++ C, a ∈ w j) := by
  have S := O1.so
  have un := argsOk_un ha
  have dj := af.dj O1.nd O1.dw S.dj un
  have hn : ∀ a, H1 a = none → H a = none := fun a e => by
    cases h : H a with
    | none => rfl
    | some o => exact absurd e (O1.ps.al a (by rw [h]; simp))
  have back : ∀ a j, j ∈ T ++ C → a ∈ w1 j → H a = none ∨ ∃ k ∈ T ++ C, a ∈ w k := fun a j hj m => by
    by_cases e : j ∈ T
    · exact (O1.ps.src j e a m).imp id fun ⟨k, hk, mm⟩ => ⟨k, app_l k hk, mm⟩
    · rw [O1.ps.fw j e] at m
      exact .inr ⟨j, hj, m⟩
  have backF : ∀ a i, a ∈ F.getD i [] → H a = none ∨ ∃ k ∈ T ++ C, a ∈ w k := fun a i m => by
    obtain ⟨r, er⟩ := af.cell m
    obtain ⟨v', _, _, h3⟩ := af.get er
    rcases h3 with ⟨d, _, e⟩ | ⟨j', o', e2, e, _⟩ | ⟨o', _, sub, _⟩
    · rw [e] at m; simp at m
    · rw [e] at m
      subst e2
      exact back a j' (app_r j' (argsOk_sl ha er).1) m
    · exact (O1.sr a (sub a m)).imp id fun ⟨j, hj, mm⟩ => ⟨j, app_l j hj, mm⟩
  have allB : ∀ a, (H1 a = none ∨ ∃ i ∈ B, a ∈ F.getD i []) → H a = none ∨ ∃ j ∈ T ++ C, a ∈ w j := fun a h => by
    rcases h with h | ⟨i, _, m⟩
    · exact .inl (hn a h)
    · exact backF a i m
  -- the names that were not handed on
  have apart : ∀ j, ixOf j 0 rs = none → ∀ a ∈ w1 j, ∀ i, a ∉ F.getD i [] := fun j hj a m i mi => by
    obtain ⟨r, er⟩ := af.cell mi
    obtain ⟨v', _, _, h3⟩ := af.get er
    rcases h3 with ⟨d, _, e⟩ | ⟨j', o', e2, e, _⟩ | ⟨o', _, sub, _⟩
    · rw [e] at mi; simp at mi
    · rw [e] at mi
      have := S.dj j j' a m mi
      subst this
      subst e2
      have := (argsOk_sl ha er).2.2.2
      rw [hj] at this; cases this
    · exact O1.dw a (sub a mi) j m
  have ix : ∀ j i, ixOf j 0 rs = some i → ∃ o v, rs[i]? = some (.sl j o) ∧ vs[i]? = some v ∧ σ[j]? = some (some v) ∧ F.getD i [] = w1 j := fun j i e => by
    obtain ⟨o, _, er⟩ := ixOf_some e
    rw [Nat.sub_zero] at er
    obtain ⟨v, h1, _, h3⟩ := af.get er
    rcases h3 with ⟨d, e, _⟩ | ⟨j', o', e2, e, hs⟩ | ⟨o', e, _, _⟩
    · cases e
    · cases e2
      exact ⟨_, v, er, h1, hs, e⟩
    · cases e
  have kp : Kp Z1 Z' H1 H' := fun a z => ⟨P'.zm a z, P'.only a (S.zal a z) fun i _ m => by
    obtain ⟨r, er⟩ := af.cell m
    obtain ⟨v', _, _, h3⟩ := af.get er
    rcases h3 with ⟨d, _, e⟩ | ⟨j', o', e2, e, _⟩ | ⟨o', _, sub, _⟩
    · rw [e] at m; simp at m
    · rw [e] at m; exact S.nz j' a m z
    · exact O1.dz a (sub a m) z⟩
  refine ⟨fun j => match ixOf j 0 rs with | some i => w' i | none => w1 j, ⟨?_, fun j o e => ?_, fun j => ?_, fun j k a mj mk => ?_, fun j a m => ?_, fun j a m => ?_, S'.zal⟩, ⟨fun a z => P'.zm a (O1.ps.zm a z), fun a hha hw => ?_, fun a h => P'.al a (O1.ps.al a h), fun a z => ?_, fun j hj => ?_, fun j hj => ?_, fun j hj a m => ?_⟩, fun a j m => ?_, allB⟩
  · rw [wb_len]; exact S.len
  · rw [wb_get (j := j) ha hl] at e
    show ∃ v, σ[j]? = some (some v) ∧ RO K Z' H' o v (match ixOf j 0 rs with | some i => w' i | none => w1 j)
    cases hi : ixOf j 0 rs with
    | none =>
      rw [hi] at e
      obtain ⟨v, h1, h2⟩ := S.rep j o e
      refine ⟨v, h1, h2.kp kp fun a m => P'.only a (S.wal j a m) fun i _ mi => apart j hi a m i mi⟩
    | some i =>
      rw [hi] at e
      simp only [Nat.sub_zero] at e
      split at e
      · obtain ⟨oo, v, er, ev, hs, _⟩ := ix j i hi
        obtain ⟨v', h1, h2⟩ := S'.rep i o (by rw [List.getElem?_map]; exact e)
        rw [List.getElem?_map, ev] at h1
        cases h1
        exact ⟨v, hs, h2⟩
      · cases e
  · show (match ixOf j 0 rs with | some i => w' i | none => w1 j).Nodup
    cases hi : ixOf j 0 rs with
    | none => exact S.nd j
    | some i => exact S'.nd i
  · have mj : a ∈ match ixOf j 0 rs with | some i => w' i | none => w1 j := mj
    have mk : a ∈ match ixOf k 0 rs with | some i => w' i | none => w1 k := mk
    have cross : ∀ j k i, ixOf j 0 rs = none → a ∈ w1 j → ixOf k 0 rs = some i → a ∈ w' i → False := fun j k i hj mj hk mk => by
      by_cases hB : i ∈ B
      · rcases P'.src i hB a mk with z | ⟨i2, _, mi⟩
        · exact S.wal j a mj z
        · exact apart j hj a mj i2 mi
      · rw [P'.fw i hB] at mk
        exact apart j hj a mj i mk
    cases hj : ixOf j 0 rs with
    | none =>
      rw [hj] at mj
      cases hk : ixOf k 0 rs with
      | none => rw [hk] at mk; exact S.dj j k a mj mk
      | some i => rw [hk] at mk; exact (cross j k i hj mj hk mk).elim
    | some i =>
      rw [hj] at mj
      cases hk : ixOf k 0 rs with
      | none => rw [hk] at mk; exact (cross k j i hk mk hj mj).elim
      | some i' =>
        rw [hk] at mk
        have := S'.dj i i' a mj mk
        subst this
        obtain ⟨_, _, e1, _⟩ := ix j i hj
        obtain ⟨_, _, e2, _⟩ := ix k i hk
        rw [e1] at e2
        cases e2
        rfl
  · have m : a ∈ match ixOf j 0 rs with | some i => w' i | none => w1 j := m
    cases hj : ixOf j 0 rs with
    | none =>
      rw [hj] at m
      intro z
      rcases P'.zn a z with z | z | ⟨i, _, mi⟩
      · exact S.nz j a m z
      · exact S.wal j a m z
      · exact apart j hj a m i mi
    | some i => rw [hj] at m; exact S'.nz i a m
  · have m : a ∈ match ixOf j 0 rs with | some i => w' i | none => w1 j := m
    cases hj : ixOf j 0 rs with
    | none => rw [hj] at m; exact P'.al a (S.wal j a m)
    | some i => rw [hj] at m; exact S'.wal i a m
  · have e1 := O1.ps.only a hha fun j hj => hw j (app_l j hj)
    refine (P'.only a (by rw [e1]; exact hha) fun i _ m => ?_).trans e1
    rcases backF a i m with z | ⟨k, hk, mm⟩
    · exact hha z
    · exact hw k hk mm
  · rcases P'.zn a z with z | z | ⟨i, hi, m⟩
    · exact (O1.ps.zn a z).imp id fun z => z.imp id fun ⟨j, hj, mm⟩ => ⟨j, app_l j hj, mm⟩
    · exact .inr (.inl (hn a z))
    · exact .inr (backF a i m)
  · simp only [List.mem_append, not_or] at hj
    rw [wb_get (j := j) ha hl]
    cases hi : ixOf j 0 rs with
    | none => exact O1.ps.fg j hj.1
    | some i =>
      obtain ⟨o, _, er, _⟩ := ix j i hi
      exact absurd (argsOk_sl ha er).1 hj.2
  · simp only [List.mem_append, not_or] at hj
    show (match ixOf j 0 rs with | some i => w' i | none => w1 j) = w j
    cases hi : ixOf j 0 rs with
    | none => exact O1.ps.fw j hj.1
    | some i =>
      obtain ⟨o, _, er, _⟩ := ix j i hi
      exact absurd (argsOk_sl ha er).1 hj.2
  · have m : a ∈ match ixOf j 0 rs with | some i => w' i | none => w1 j := m
    cases hi : ixOf j 0 rs with
    | none => rw [hi] at m; exact back a j hj m
    | some i =>
      rw [hi] at m
      have m : a ∈ w' i := m
      by_cases hB : i ∈ B
      · exact allB a (P'.src i hB a m)
      · rw [P'.fw i hB] at m
        exact backF a i m
  · have m : a ∈ match ixOf j 0 rs with | some i => w' i | none => w1 j := m
    cases hi : ixOf j 0 rs with
    | none => rw [hi] at m; exact .inr ⟨m, apart j hi a m⟩
    | some i => rw [hi] at m; exact .inl ⟨i, m⟩
end
theorem lift_call {K : PySem.W.Frag} {W : WX} {T B C : List Nat} {sp : ASp} {ta : AA} {σ : L2.St} {H : Hp} {Q : VK} (h : lift K W (T ++ C) (rCall B C sp ta) σ H Q) : liftA K W T ta σ H fun vs H1 => LSp K B sp vs H1 Q (WE W σ) := by
  obtain ⟨Z, g, w, q, E, S, h, ok, ex⟩ := h
  refine ⟨Z, g, w, _, E, S, h, fun rs vs Z1 H1 g1 w1 f q1 O1 => ?_, ex.of⟩
  obtain ⟨ha, hsp⟩ := q1
  obtain ⟨F, af⟩ := AF.of O1.rr ha
  obtain ⟨SA, hB⟩ := call_start O1 af ha
  refine ⟨Z1, rs.map toO, _, _, _, SA, by simp [af.len.2], hB, hsp, fun r v Z' H' os' w' f' kk O' hl => ?_, fun C' fs d Z' H' os' w' kx S' P' xd hl => ?_⟩
  · rw [List.length_map] at hl
    obtain ⟨w2, S2, P2, own, bk⟩ := call_end O1 af ha hl O'.so O'.ps
    have sr : ∀ a ∈ f', H a = none ∨ ∃ j ∈ T ++ C, a ∈ w j := fun a m => bk a (O'.sr a m)
    have dw : ∀ a ∈ f', ∀ j, a ∉ w2 j := fun a m j mj => by
      rcases own a j mj with ⟨i, mi⟩ | ⟨m1, ap⟩
      · exact O'.dw a m i mi
      · rcases O'.sr a m with z | ⟨i, _, mi⟩
        · exact O1.so.wal j a m1 z
        · exact ap i mi
    cases r with
    | p d =>
      have rr := O'.rr.p1
      exact ok _ v Z' H' _ w2 f' kk ⟨S2, P2, by rw [rr.2]; exact .p rr.1 .nil, O'.nd, O'.dz, dw, O'.fal, sr⟩
    | ow o =>
      have rr : RO K Z' H' o v f' := O'.rr.own rfl
      exact ok _ v Z' H' _ w2 f' kk ⟨S2, P2, by simpa using RRs.ow (σ := σ) (g := wb rs os' g1) (w := w2) rr .nil, O'.nd, O'.dz, dw, O'.fal, sr⟩
    | sl _ _ => exact kk.elim
    | vw _ _ _ => exact kk.elim
  · rw [List.length_map] at hl
    obtain ⟨w2, S2, P2, _, _⟩ := call_end O1 af ha hl S' P'
    exact ex C' fs d Z' H' _ w2 kx S2 P2 xd
end VL

namespace VL
open PySem PySem.Spec L2

/-! ### 19. f(e, ..) for a def of the text -/
def DefOk (P : Program) (w : World) (K : PySem.W.Frag) (mg : Str → Option Value) (base : Heap) (x : Str) (k : Nat) (ps : List Str) (B : List Nat) (sp : ASp) : Prop :=
  ∃ f fd, FnV P w K mg base k f fd ps B sp ∧ mg x = some (.ref f) ∧ PySem.W.keepIn K (.ref f) = true ∧ Binds K fd ps []
section
variable {X : Cx} {W : WX} {B T C : List Nat} {x : Str} {k j : Nat} {ps : List Str} {sp : ASp} {ta : AA} {e : Expr} {es : List Expr} {p pos : Pos}
theorem je_call (C : List Nat) (D : DefOk X.prog X.w X.K X.mg X.base x k ps B sp) (hg : X.A.guards = some []) (hr : Room j X.A) (hk : k ≤ j) (tk : Takes X W) (gl : Gl X x) (ha : JA X W T (e :: es) ta) (hdb : (x == ("__debug__" : Str)) = false := by decide)
    (he : starEach (e :: es) X.env = (false, eval e X.env) :: starEach es X.env := by rfl) (hpl : (backTo pos (starEach es X.env)).any (·.1) = false := by rfl) : JE X W (T ++ C) (.Call (.Name x p) (e :: es) [] pos) (rCall B C sp ta) := by
  obtain ⟨f, fd, F, hm, hkp, hb⟩ := D
  exact ⟨PEi (callG F hg (hr.mono hk) gl hm hkp hb tk ha.pa hdb he hpl) fun σ H Q h => lift_call h⟩
theorem je_call0 (D : DefOk X.prog X.w X.K X.mg X.base x k ps B sp) (hg : X.A.guards = some []) (hr : Room j X.A) (hk : k ≤ j) (tk : Takes X W) (gl : Gl X x) (hdb : (x == ("__debug__" : Str)) = false := by decide) :
    JE X W ([] ++ []) (.Call (.Name x p) [] [] pos) (rCall B [] sp aNil) := by
  obtain ⟨f, fd, F, hm, hkp, hb⟩ := D
  refine ⟨PEi (callG0 F hg (hr.mono hk) gl hm hkp hb tk hdb) fun σ H Q h => ?_⟩
  obtain ⟨Z, g, w, q, E, S, h, ok, ex⟩ := lift_call (C := []) h
  exact ok [] [] Z H g w [] h (Out.nil S)
end

/-! ### 20. Targets of loops -/
abbrev Bd := D → Gm → (Gm → Prop) → Prop
def liftG (K : PySem.W.Frag) (B T : List Nat) (b : Bd) : TG := fun v σ H Q => ∃ Z g w d k, SO K Z H σ g w ∧ PD K Z H v d ∧ b d g k ∧ ∀ g' w' σ', k g' → Fin K B T Z H g w σ Z H g' w' σ' → Q σ' H
structure JG (X : Cx) (B T : List Nat) (tg : Expr) (b : Bd) : Prop where
  pg : PG X tg (liftG X.K B T b)
theorem PGi {X : Cx} {e : Expr} {t t' : TG} (h : PG X e t) (i : ∀ v σ H Q, t' v σ H Q → t v σ H Q) : PG X e t' := ⟨fun pins s σ H v u Q I r q => h.run pins s σ H v u Q I r (i v σ H Q q)⟩
def bName (i : Nat) : Bd := fun d g k => k (g.set i (some (.p d)))
def bNames (is : List Nat) : List D → Gm → (Gm → Prop) → Prop := fun ds g k => match is, ds with
  | [], [] => k g
  | i :: is, d :: ds => bNames is ds (g.set i (some (.p d))) k
  | _, _ => False
def bTup (is : List Nat) : Bd := fun d g k => match d with
  | .tuple ds => bNames is ds g k
  | _ => False
section
variable {K : PySem.W.Frag} {B T : List Nat} {Z : ZS} {H : Hp} {g : Gm} {w : Ow} {σ : L2.St} {i : Nat} {v : V} {d : D}
theorem SO.put (S : SO K Z H σ g w) (h : PD K Z H v d) (hB : B.contains i = false) : ∃ w', Fin K B [i] Z H g w σ Z H (g.set i (some (.p d))) w' (σ.set i (some v)) := by
  have O1 := (Out.one S h).store (B := B) (i := i) (o := .p d) rfl hB
  exact ⟨_, by simpa using O1⟩
end
section
variable {X : Cx} {B T : List Nat} {pos : Pos}
theorem jg_name {i : Nat} {x : Str} (hB : B.contains i = false) (hN : X.N.Nodup) (hi : X.N[i]? = some x) (hx : Loc X.env.scope x) (hf : X.fn x = true ∨ X.env.scope.names.lookup x = some .local := by first | exact .inl rfl | exact .inr rfl | assumption) :
    JG X B [i] (.Name x pos) (bName i) := by
  refine ⟨PGi (pg_name hN hi hx hf) fun v σ H Q ⟨Z, g, w, d, k, S, h, b, ok⟩ => ?_⟩
  obtain ⟨w', F⟩ := S.put h hB
  exact ok _ w' _ b F
/-- names in a row -/
def liftGs (K : PySem.W.Frag) (B T : List Nat) (is : List Nat) : TGs := fun vs σ H Q => ∃ Z g w ds k, SO K Z H σ g w ∧ PDs K Z H vs ds ∧ bNames is ds g k ∧ ∀ g' w' σ', k g' → Fin K B T Z H g w σ Z H g' w' σ' → Q σ' H
structure JGs (X : Cx) (B : List Nat) (tgs : List Expr) (is : List Nat) : Prop where
  pgs : PGs X tgs (liftGs X.K B is is)
theorem PGsi {X : Cx} {e : List Expr} {t t' : TGs} (h : PGs X e t) (i : ∀ v σ H Q, t' v σ H Q → t v σ H Q) : PGs X e t' := ⟨fun pins s σ H v u Q I r q => h.run pins s σ H v u Q I r (i v σ H Q q)⟩
theorem jgs_nil : JGs X B [] [] := by
  refine ⟨PGsi pgs_nil fun vs σ H Q ⟨Z, g, w, ds, k, S, h, b, ok⟩ => ?_⟩
  cases ds with
  | nil => cases h; exact ⟨rfl, ok g w σ b (.refl S)⟩
  | cons _ _ => simp [bNames] at b
theorem jgs_cons {i : Nat} {is : List Nat} {x : Str} {es : List Expr} (hB : B.contains i = false) (hN : X.N.Nodup) (hi : X.N[i]? = some x) (hx : Loc X.env.scope x) (h : JGs X B es is)
    (hf : X.fn x = true ∨ X.env.scope.names.lookup x = some .local := by first | exact .inl rfl | exact .inr rfl | assumption)
    (hs : (assignEach (.Name x pos :: es) X.env).map (·.2) = assign (.Name x pos) X.env :: (assignEach es X.env).map (·.2) := by rfl) : JGs X B (.Name x pos :: es) (i :: is) := by
  refine ⟨PGsi (pgs_cons (pg_name hN hi hx hf) h.pgs hs) fun vs σ H Q ⟨Z, g, w, ds, k, S, h, b, ok⟩ => ?_⟩
  cases ds with
  | nil => simp [bNames] at b
  | cons d ds =>
    cases h with
    | cons h1 h2 =>
      unfold bNames at b
      obtain ⟨w', F⟩ := S.put h1 hB
      refine ⟨_, _, rfl, Z, _, w', ds, k, F.so, h2, b, fun g2 w2 σ2 kk F2 => ok g2 w2 σ2 kk ((F.trans F2).mono fun j hj => by simpa using hj)⟩
theorem jg_tup {es : List Expr} {is : List Nat} {k n : Nat} (hc : X.calm = true) (h : JGs X B es is) (hl : is.length = n) (hn : (assignEach es X.env).length = n := by rfl) (hst : (assignEach es X.env).findIdx? (·.1) = none := by rfl) :
    JG X B is (.Tuple es k pos) (bTup is) := by
  refine ⟨PGi (pg_tup hc h.pgs hn hst) fun v σ H Q ⟨Z, g, w, d, k, S, h, b, ok⟩ => ?_⟩
  unfold bTup at b
  split at b
  · rename_i ds
    obtain ⟨a, xs, rfl, hx, rx⟩ := PD.tup_i h
    have ll : ∀ (is : List Nat) (ds : List D) (g : Gm), bNames is ds g k → ds.length = is.length := by
      intro is
      induction is with
      | nil =>
        intro ds g b
        cases ds with
        | nil => rfl
        | cons _ _ => simp [bNames] at b
      | cons i is ih =>
        intro ds g b
        cases ds with
        | nil => simp [bNames] at b
        | cons d ds =>
          unfold bNames at b
          simp [ih _ _ b]
    exact ⟨a, xs, rfl, hx, by rw [rx.length, ll _ _ _ b, hl], Z, g, w, ds, k, S, rx, b, ok⟩
  · exact b.elim
end

/-! ### 21. What is walked -/
structure ItD (K : PySem.W.Frag) (Z : ZS) (H : Hp) (C : List Addr) (J : It) (ds : List D) : Prop where
  go : ∀ Z' H' i, Kp Z Z' H H' → (∀ a ∈ C, H' a = H a) → i < ds.length → J.go i H'
  yl : ∀ Z' H' i d x H'', Kp Z Z' H H' → (∀ a ∈ C, H' a = H a) → (∀ a, Z' a → H' a ≠ none) → ds[i]? = some d → J.yld i H' x H'' → ∃ Z'', Ext Z' H' Z'' H'' [] ∧ PD K Z'' H'' x d
  st : ∀ Z' H', Kp Z Z' H H' → (∀ a ∈ C, H' a = H a) → J.stop ds.length H'
abbrev AI := Gm → (List D → List Nat → Gm → Prop) → EX → Prop
def liftI (K : PySem.W.Frag) (W : WX) (T : List Nat) (t : AI) : TI := fun σ H R => ∃ Z g w q E, SO K Z H σ g w ∧ t g q E ∧
  (∀ ds sl rs vs Z' H' g' w' f J C, q ds sl g' → Out K T Z H g w σ Z' H' g' w' rs vs f → ItD K Z' H' C J ds → (∀ a ∈ C, H' a ≠ none ∧ ∀ j, a ∈ w' j → j ∈ sl) → R J H') ∧ exOk K W T Z H g w σ E
structure JI (X : Cx) (W : WX) (T : List Nat) (tg it : Expr) (t : AI) : Prop where
  pi : PI X tg it (liftI X.K W T t)
theorem PIi {X : Cx} {tg e : Expr} {t t' : TI} (h : PI X tg e t) (i : ∀ σ H Q, t' σ H Q → t σ H Q) : PI X tg e t' := ⟨fun pins s σ H Q I q => h.run pins s σ H Q I (i σ H Q q)⟩
/-- a list, a tuple, a text -/
def iAny (K : PySem.W.Frag) (te : TE) : TI := fun σ H R => te σ H fun v H1 => (∃ a, v = .ref a ∧ (∃ xs, SqL K H1 a xs) ∧ R (Itl K a) H1) ∨ (∃ a, v = .ref a ∧ (∃ xs, SqT K H1 a xs) ∧ R (Itt K a) H1) ∨ ∃ x, v = .str x ∧ R (Its x) H1
theorem pi_any {X : Cx} {tg e : Expr} {te : TE} (he : PE X e te) : PI X tg e (iAny X.K te) := by
  refine ⟨fun pins s σ H R I h => thn (he.run pins s σ H _ I h) ?_⟩
  rintro v s1 ⟨y, H1, I1, r1, q⟩
  rcases q with ⟨a, rfl, ⟨xs, hq⟩, q⟩ | ⟨a, rfl, ⟨xs, hq⟩, q⟩ | ⟨x, rfl, q⟩
  · cases r1
    obtain ⟨its, _, p, _⟩ := I1.list hq
    exact wpAny_pyIter_list p.isList (pi_one (tk := s1.toks) I1 _ (turn_list a _) ⟨_, Heap.get?_push_size _ rfl, rfl, rfl⟩ q)
  · cases r1
    obtain ⟨its, _, p, _⟩ := I1.tuple hq
    exact wpAny_pyIter_tuple (show s1.heap.IsTuple a its.toArray from p) (pi_one (tk := s1.toks) I1 _ (turn_tuple a _) ⟨_, Heap.get?_push_size _ rfl, rfl, rfl⟩ q)
  · obtain ⟨t, rfl⟩ := r1
    cases ha : x.cps.all (· < 128)
    · exact wpAny_pyIter_wide ha (pi_one (tk := s1.toks) I1 _ (turn_str _ x t "str_iterator" (.inr rfl)) ⟨_, Heap.get?_push_size _ rfl, rfl, rfl⟩ q)
    · exact wpAny_pyIter_ascii ha (pi_one (tk := s1.toks) I1 _ (turn_str _ x t "str_ascii_iterator" (.inl rfl)) ⟨_, Heap.get?_push_size _ rfl, rfl, rfl⟩ q)
def slots1 : R → List Nat
  | .sl i _ => [i]
  | .vw i _ _ => [i]
  | _ => []
/-- its items -/
def seqM (od : Option D) (Q : List D → Prop) : Prop := match od with
  | some (.list ds) => Q ds
  | some (.tuple ds) => Q ds
  | some (.str x) => Q (x.cps.toList.map fun c => .str ⟨#[c]⟩)
  | _ => False
def rSeq (te : AE) : AI := fun g Q E => te g (fun r g1 => seqM (datu r) fun ds => Q ds (slots1 r) g1) E
section
variable {K : PySem.W.Frag} {Z Z1 : ZS} {H H1 : Hp} {g : Gm} {w w1 : Ow} {σ : L2.St} {v : V} {a : Addr} {xs : List V} {ds : List D} {C : List Addr}
theorem SqL.kp1 {H' : Hp} (h : SqL K H a xs) (e : H' a = H a) : SqL K H' a xs := by
  rcases h with h | h
  · exact .inl (Rd.kp h e)
  · exact .inr h
theorem SqT.kp1 {H' : Hp} (h : SqT K H a xs) (e : H' a = H a) : SqT K H' a xs := by
  rcases h with h | h
  · exact .inl (Rd.kp h e)
  · exact .inr h
theorem ItD.l (st : ∀ Z' H', Kp Z Z' H H' → (∀ a ∈ C, H' a = H a) → SqL K H' a xs) (r : PDs K Z H xs ds) : ItD K Z H C (Itl K a) ds where
  go := fun Z' H' i k c hi => ⟨xs, xs[i]'(by rw [r.length]; exact hi), st Z' H' k c, by simp [r.length, hi]⟩
  yl := fun Z' H' i d x H'' k c zl hd ⟨e, y⟩ => by
    subst e
    have := y xs (st Z' _ k c)
    obtain ⟨v, h1, h2⟩ := r.get hd
    rw [this] at h1
    cases h1
    exact ⟨Z', Ext.refl zl, h2.kp k⟩
  st := fun Z' H' k c => ⟨xs, st Z' H' k c, by rw [r.length]; exact Nat.le_refl _⟩
theorem ItD.t (st : ∀ Z' H', Kp Z Z' H H' → (∀ a ∈ C, H' a = H a) → SqT K H' a xs) (r : PDs K Z H xs ds) : ItD K Z H C (Itt K a) ds where
  go := fun Z' H' i k c hi => ⟨xs, xs[i]'(by rw [r.length]; exact hi), st Z' H' k c, by simp [r.length, hi]⟩
  yl := fun Z' H' i d x H'' k c zl hd ⟨e, y⟩ => by
    subst e
    have := y xs (st Z' _ k c)
    obtain ⟨v, h1, h2⟩ := r.get hd
    rw [this] at h1
    cases h1
    exact ⟨Z', Ext.refl zl, h2.kp k⟩
  st := fun Z' H' k c => ⟨xs, st Z' H' k c, by rw [r.length]; exact Nat.le_refl _⟩
theorem ItD.s {x : Str} : ItD K Z H [] (Its x) (x.cps.toList.map fun c => .str ⟨#[c]⟩) where
  go := fun Z' H' i k c hi => by
    show i < x.cps.size
    simpa using hi
  yl := fun Z' H' i d y H'' k c zl hd ⟨e, c1, e1, e2⟩ => by
    subst e e2
    rw [List.getElem?_map, Array.getElem?_toList, e1] at hd
    cases hd
    exact ⟨Z', Ext.refl zl, .str _⟩
  st := fun Z' H' k c => by
    show x.cps.size ≤ _
    simp
theorem ItD.r {lo : Int} {n : Nat} : ItD K Z H [] (Itr lo n) ((List.range n).map fun (i : Nat) => .int (lo + i)) where
  go := fun Z' H' i k c hi => by
    show i < n
    simpa using hi
  yl := fun Z' H' i d y H'' k c zl hd ⟨e, e2⟩ => by
    subst e e2
    rw [List.getElem?_map] at hd
    cases h : (List.range n)[i]? with
    | none => rw [h] at hd; cases hd
    | some j =>
      rw [h] at hd
      have := List.getElem?_eq_some_iff.mp h
      obtain ⟨h1, h2⟩ := this
      rw [List.getElem_range] at h2
      subst h2
      cases hd
      exact ⟨Z', Ext.refl zl, .int _⟩
  st := fun Z' H' k c => by
    show n ≤ _
    simp
end
section
variable {X : Cx} {W : WX} {T T1 T2 : List Nat} {tg e : Expr} {es : List Expr} {te : AE} {ta : AA} {pos p : Pos}
theorem ji_seq (he : JE X W T e te) : JI X W T tg e (rSeq te) := by
  refine ⟨PIi (pi_any he.pe) fun σ H R ⟨Z, g, w, q, E, S, h, ok, ex⟩ => ⟨Z, g, w, _, E, S, h, fun r v Z1 H1 g1 w1 f q1 O1 => ?_, ex⟩⟩
  have fin : ∀ {ds : List D} {sl : List Nat} {J : It} {C : List Addr}, q ds sl g1 → ItD X.K Z1 H1 C J ds → (∀ a ∈ C, H1 a ≠ none ∧ ∀ j, a ∈ w1 j → j ∈ sl) → R J H1 := fun q' it c => ok _ _ _ _ _ _ _ _ _ _ _ q' O1 it c
  have noC : ∀ {sl : List Nat}, ∀ a ∈ ([] : List Addr), H1 a ≠ none ∧ ∀ j, a ∈ w1 j → j ∈ sl := fun a m => absurd m (by simp)
  have hR := O1.rr
  -- plain data
  have plain : ∀ {d : D} {sl : List Nat}, PD X.K Z1 H1 v d → seqM (some d) (fun ds => q ds sl g1) → (∃ a, v = .ref a ∧ (∃ xs, SqL X.K H1 a xs) ∧ R (Itl X.K a) H1) ∨ (∃ a, v = .ref a ∧ (∃ xs, SqT X.K H1 a xs) ∧ R (Itt X.K a) H1) ∨ ∃ x, v = .str x ∧ R (Its x) H1 := fun {d sl} h q' => by
    cases h with
    | non => exact q'.elim
    | bl b => exact q'.elim
    | int i => exact q'.elim
    | str x => exact .inr (.inr ⟨x, rfl, fin q' .s noC⟩)
    | lst z h r => exact .inl ⟨_, rfl, ⟨_, .of h⟩, fin q' (.l (fun Z' H' k _ => .of ((k _ z).2.trans h)) r) noC⟩
    | tup c r => exact .inr (.inl ⟨_, rfl, ⟨_, c.sq⟩, fin q' (.t (fun Z' H' k _ => (c.kp k).sq) r) noC⟩)
    | dct _ _ _ _ => exact q'.elim
  -- a list that is owned
  have owned : ∀ {o : O} {sl : List Nat} {fo : List Addr}, RO X.K Z1 H1 o v fo → (∀ a ∈ fo, ∀ j, a ∈ w1 j → j ∈ sl) → seqM (sh o) (fun ds => q ds sl g1) →
      (∃ a, v = .ref a ∧ (∃ xs, SqL X.K H1 a xs) ∧ R (Itl X.K a) H1) ∨ (∃ a, v = .ref a ∧ (∃ xs, SqT X.K H1 a xs) ∧ R (Itt X.K a) H1) ∨ ∃ x, v = .str x ∧ R (Its x) H1 := fun {o sl fo} ro own q' => by
    cases ro with
    | p h => exact plain h q'
    | @ls a xs ds h r => exact .inl ⟨_, rfl, ⟨_, .of h⟩, fin q' (.l (C := [a]) (fun Z' H' k c => .of ((c a (by simp)).trans h)) r) fun b m => by
        rw [List.mem_singleton.mp m]
        exact ⟨by rw [h]; simp, own a (by simp)⟩⟩
    | dc _ _ _ => exact q'.elim
    | lo _ _ => exact q'.elim
    | dco _ _ _ => exact q'.elim
    | ins _ _ _ => exact q'.elim
    | val _ => exact q'.elim
    | exc _ => exact q'.elim
    | fl _ => exact q'.elim
  cases hR with
  | p h t => cases t; exact plain h q1
  | sl e1 e2 ro t =>
    cases t
    rename_i i o
    by_cases hp : (∃ ns, o = .fl ns)
    · obtain ⟨ns, rfl⟩ := hp
      generalize w1 i = fw at ro
      cases ro with
      | @fl a _ c =>
        rcases c with ⟨z, r⟩ | c
        · exact .inl ⟨a, rfl, ⟨_, .inl r⟩, fin q1 (.l (fun Z' H' k _ => .inl (Rd.kp r (k a z).2)) (ints_pd _)) noC⟩
        · exact .inl ⟨a, rfl, ⟨_, c H1⟩, fin q1 (.l (fun Z' H' _ _ => c H') (ints_pd _)) noC⟩
    · refine owned (sl := [i]) ro (fun a m j mj => by rw [O1.so.dj j i a mj m]; simp) ?_
      cases o with
      | fl ns => exact absurd ⟨ns, rfl⟩ hp
      | _ => exact q1
  | vw h t =>
    cases t
    rename_i i o pl
    obtain ⟨rv, pre, fo, post, e1, e2, ro, _, _⟩ := h
    exact owned (sl := [i]) ro (fun a m j mj => by rw [O1.so.dj j i a mj (by rw [e2]; simp [m])]; simp) q1
  | ow h t =>
    cases t
    exact owned (sl := []) h (fun a m j mj => absurd mj (O1.dw a (by simp [m]) j)) q1
/-- range(n), range(a, b) -/
def rRange1 (ta : AA) : AI := fun g Q E => ta g (fun rs g1 => match datL datu rs with
  | some [.int j] => -(2 ^ 62) ≤ j ∧ j < 2 ^ 62 ∧ Q ((List.range j.toNat).map fun (i : Nat) => .int (0 + i)) [] g1
  | _ => False) E
def rRange2 (ta : AA) : AI := fun g Q E => ta g (fun rs g1 => match datL datu rs with
  | some [.int i, .int j] => (-(2 ^ 62) ≤ i ∧ i < 2 ^ 62 ∧ -(2 ^ 62) ≤ j ∧ j < 2 ^ 62) ∧ Q ((List.range (j - i).toNat).map fun (k : Nat) => .int (i + k)) [] g1
  | _ => False) E
theorem ji_range1 {a : Expr} (hg : Gl X "range") (hm : X.mg "range" = none) (ha : JA X W T [a] ta) (hs : starEach [a] X.env = [(false, eval a X.env)] := by rfl) : JI X W T tg (.Call (.Name "range" p) [a] [] pos) (rRange1 ta) := by
  refine ⟨PIi (pi_range1 hg hm ha.pa hs) fun σ H R ⟨Z, g, w, q, E, S, h, ok, ex⟩ => ⟨Z, g, w, _, E, S, h, fun rs vs Z1 H1 g1 w1 f q1 O1 => ?_, ex⟩⟩
  split at q1
  · rename_i j e
    obtain ⟨x, rfl, h1⟩ := all2_1 (O1.rr.u e)
    rw [h1.int_i]
    exact ⟨j, rfl, q1.1, q1.2.1, ok _ _ _ _ _ _ _ _ _ _ [] q1.2.2 O1 .r fun a m => absurd m (by simp)⟩
  · exact q1.elim
theorem ji_range2 {a b : Expr} (hg : Gl X "range") (hm : X.mg "range" = none) (ha : JA X W T [a, b] ta) (hs : starEach [a, b] X.env = [(false, eval a X.env), (false, eval b X.env)] := by rfl) (hs2 : starEach [b] X.env = [(false, eval b X.env)] := by rfl) :
    JI X W T tg (.Call (.Name "range" p) [a, b] [] pos) (rRange2 ta) := by
  refine ⟨PIi (pi_range2 hg hm ha.pa hs hs2) fun σ H R ⟨Z, g, w, q, E, S, h, ok, ex⟩ => ⟨Z, g, w, _, E, S, h, fun rs vs Z1 H1 g1 w1 f q1 O1 => ?_, ex⟩⟩
  split at q1
  · rename_i i j e
    obtain ⟨x, y, rfl, h1, h2⟩ := all2_2 (O1.rr.u e)
    rw [h1.int_i, h2.int_i]
    exact ⟨i, j, rfl, q1.1, ok _ _ _ _ _ _ _ _ _ _ [] q1.2 O1 .r fun a m => absurd m (by simp)⟩
  · exact q1.elim
end
/-! ### 22. for -/
def AN.loop (N : AN) (nx : Gm → Prop) : AN := ⟨nx, N.rt, N.nx, nx, N.ex⟩
def forW (b : Bd) (tb : AS) (N : AN) : List D → Gm → Prop
  | [], g => N.nx g
  | d :: ds, g => b d g fun g1 => tb (N.loop (forW b tb N ds)) g1
def sFor (T2 : List Nat) (b : Bd) (ti : AI) (tb : AS) : AS := fun N g => ti g (fun ds sl g1 => (sl.all fun j => !T2.contains j) = true ∧ forW b tb N ds g1) N.ex
theorem for_any {J : It} {n : Nat} {g : TG} {tb : TS} {D : Ends} {σ : L2.St} {H : Hp} (Pv : Nat → L2.St → Hp → Prop) (h0 : Pv 0 σ H) (go : ∀ i σ H, i < n → Pv i σ H → J.go i H)
    (hs : ∀ i x σ H H', i < n → Pv i σ H → J.yld i H x H' → g x σ H' fun σ2 H2 => tb { D with nx := Pv (i + 1), ct := Pv (i + 1), bk := D.nx } σ2 H2) (st : ∀ σ H, Pv n σ H → J.stop n H ∧ D.nx σ H) :
    ∃ W : Nat → Nat → L2.St → Hp → Prop, (∃ m, W 0 m σ H) ∧ ∀ i m σ H, W i m σ H → (J.stop i H ∧ D.nx σ H) ∨ (J.go i H ∧ ∃ N : L2.St → Hp → Prop, (∀ σ' H', N σ' H' → ∃ m', m' < m ∧ W (i + 1) m' σ' H') ∧
      ∀ x H', J.yld i H x H' → g x σ H' fun σ2 H2 => tb { D with nx := N, ct := N, bk := D.nx } σ2 H2) := by
  refine ⟨fun i m σ H => m = n - i ∧ i ≤ n ∧ Pv i σ H, ⟨n, by simp, Nat.zero_le _, h0⟩, ?_⟩
  rintro i m σ H ⟨rfl, hi, p⟩
  by_cases lt : i < n
  · exact .inr ⟨go i σ H lt p, Pv (i + 1), fun σ' H' p' => ⟨n - (i + 1), by omega, rfl, lt, p'⟩, fun x H' y => hs i x σ H H' lt p y⟩
  · have e : i = n := by omega
    subst e
    exact .inl (st σ H p)
section
variable {X : Cx} {W : WX} {B T T1 T2 T3 : List Nat} {tg iter : Expr} {body : List Stmt} {ti : AI} {b : Bd} {tb : AS} {pos : Pos}
theorem js_for (hp : PassesOwn (model X.prog X.w) X.A X.env X.xe) (hc : X.calm = true) (hi : JI X W T1 tg iter ti) (hg : JG X B T2 tg b) (hb : JSs X W B T3 body tb) (hs : ∀ x, foldedSetIterable iter X.env x = pure x := by intro _; rfl) :
    JS X W B (T1 ++ (T2 ++ T3)) (.For tg iter body [] pos) (sFor (T2 ++ T3) b ti tb) := by
  refine ⟨PSi (ps_for hp hc hi.pi hg.pg hb.ps hs) fun D σ H ⟨Z, g, w, N, S, h, ok, rt, ex⟩ => ?_⟩
  refine ⟨Z, g, w, _, N.ex, S, h, fun ds sl rs vs Z1 H1 g1 w1 f J C q1 O1 it hC => ?_, ex.e app_l⟩
  obtain ⟨hsl, q1⟩ := q1
  have F1 := O1.fin (B := B)
  have ex1 := ex.then F1
  -- what is walked stays
  have keepC : ∀ {Z2 H2 g2 w2 σ2}, Fin X.K B (T2 ++ T3) Z1 H1 g1 w1 σ Z2 H2 g2 w2 σ2 → ∀ a ∈ C, H2 a = H1 a := fun F2 a m => F2.ps.only a (hC a m).1 fun j hj mj => by
    have := List.all_eq_true.mp hsl j ((hC a m).2 j mj)
    simp only [Bool.not_eq_true', List.contains_eq_mem, decide_eq_false_iff_not] at this
    exact this hj
  refine for_any (n := ds.length) (fun i σ2 H2 => ∃ Z2 g2 w2, Fin X.K B (T2 ++ T3) Z1 H1 g1 w1 σ Z2 H2 g2 w2 σ2 ∧ forW b tb N (ds.drop i) g2) ⟨Z1, g1, w1, (Fin.refl O1.so).mono fun _ m => absurd m (by simp), by simpa using q1⟩ ?_ ?_ ?_
  · rintro i σ2 H2 hi ⟨Z2, g2, w2, F2, _⟩
    exact it.go Z2 H2 i (F2.ps.kp O1.so) (keepC F2) hi
  · rintro i x σ2 H2 H3 hi ⟨Z2, g2, w2, F2, q2⟩ y
    rw [List.drop_eq_getElem_cons hi] at q2
    obtain ⟨Z3, x3, pd⟩ := it.yl Z2 H2 i ds[i] x H3 (F2.ps.kp O1.so) (keepC F2) F2.so.zal (List.getElem?_eq_getElem hi) y
    have F3 : Fin X.K B [] Z2 H2 g2 w2 σ2 Z3 H3 g2 w2 σ2 := ⟨F2.so.ext x3, x3.pst, fun _ _ => rfl, rfl⟩
    have F23 : Fin X.K B (T2 ++ T3) Z1 H1 g1 w1 σ Z3 H3 g2 w2 σ2 := by simpa using F2.trans F3
    refine ⟨Z3, g2, w2, ds[i], _, F3.so, pd, q2, fun g4 w4 σ4 q4 F4 => ?_⟩
    have F24 : Fin X.K B (T2 ++ T3) Z1 H1 g1 w1 σ Z3 H3 g4 w4 σ4 := (F23.trans F4).mono fun j hj => by
      simp only [List.mem_append] at hj ⊢
      rcases hj with hj | hj
      · exact hj
      · exact .inl hj
    refine ⟨Z3, g4, w4, _, F4.so, q4, fun Z5 H5 g5 w5 σ5 F5 => ?_, fun r v Z5 H5 g5 w5 σ5 f5 q5 O5 sb => ?_, ?_⟩
    · have F25 : Fin X.K B (T2 ++ T3) Z1 H1 g1 w1 σ Z5 H5 g5 w5 σ5 := (F24.trans F5).mono fun j hj => by
        simp only [List.mem_append] at hj ⊢
        rcases hj with hj | hj
        · exact hj
        · exact .inr hj
      exact ⟨fun q => ⟨Z5, g5, w5, F25, q⟩, fun q => (ok Z5 H5 g5 w5 σ5 (F1.trans F25)).1 q, fun q => ⟨Z5, g5, w5, F25, q⟩⟩
    · refine rt r v Z5 H5 g5 w5 σ5 f5 q5 ((O5.after (F1.trans F24).ps).mono fun j hj => ?_) fun j hj => (sb j hj).trans ((F1.trans F24).sb j hj)
      simp only [List.mem_append] at hj ⊢
      rcases hj with hj | hj
      · exact hj
      · exact .inr (.inr hj)
    · intro C' fs d Z6 H6 g6 w6 σ6 e F6 xd
      refine ex1 C' fs d Z6 H6 g6 w6 σ6 e ((F24.trans F6).mono fun j hj => ?_) xd
      simp only [List.mem_append] at hj ⊢
      rcases hj with hj | hj
      · exact hj
      · exact .inr hj
  · rintro σ2 H2 ⟨Z2, g2, w2, F2, q2⟩
    refine ⟨it.st Z2 H2 (F2.ps.kp O1.so) (keepC F2), ?_⟩
    rw [List.drop_length] at q2
    exact (ok Z2 H2 g2 w2 σ2 (F1.trans F2)).1 q2
end
end VL

namespace VL
open PySem PySem.Spec L2

/-! ### 23. List comprehensions -/
def wipeG (g : Gm) : List Nat → Gm
  | [] => g
  | v :: vs => (wipeG g vs).set v none
theorem wipeG_len (g : Gm) : ∀ vs : List Nat, (wipeG g vs).length = g.length
  | [] => rfl
  | v :: vs => by unfold wipeG; rw [List.length_set, wipeG_len g vs]
theorem wipeG_out {g : Gm} {j : Nat} : ∀ {vs : List Nat}, j ∉ vs → (wipeG g vs)[j]? = g[j]?
  | [], _ => rfl
  | v :: vs, h => by
    simp only [List.mem_cons, not_or] at h
    unfold wipeG
    rw [List.getElem?_set_ne (Ne.symm h.1), wipeG_out h.2]
theorem wipeG_in {g : Gm} {j : Nat} {o : O} : ∀ {vs : List Nat}, (wipeG g vs)[j]? = some (some o) → j ∉ vs
  | [], _ => by simp
  | v :: vs, h => by
    unfold wipeG at h
    by_cases e : v = j
    · subst e
      by_cases hv : v < (wipeG g vs).length
      · rw [List.getElem?_set_self hv] at h; cases h
      · rw [List.getElem?_eq_none (by simpa using hv)] at h; cases h
    · rw [List.getElem?_set_ne e] at h
      simp only [List.mem_cons, not_or]
      exact ⟨fun z => e z.symm, wipeG_in h⟩
theorem wipe_out {σ : L2.St} {j : Nat} : ∀ {vs : List Nat}, j ∉ vs → (wipe σ vs)[j]? = σ[j]?
  | [], _ => rfl
  | v :: vs, h => by
    simp only [List.mem_cons, not_or] at h
    unfold wipe
    rw [List.getElem?_set_ne (Ne.symm h.1), wipe_out h.2]
theorem wipe_at {σ : L2.St} {j : Nat} : ∀ {vs : List Nat}, j ∈ vs → j < σ.length → (wipe σ vs)[j]? = some none
  | [], h, _ => by simp at h
  | v :: vs, h, hl => by
    unfold wipe
    by_cases e : v = j
    · subst e
      rw [List.getElem?_set_self (by rw [wipe_length]; exact hl)]
    · rw [List.getElem?_set_ne e]
      exact wipe_at ((List.mem_cons.mp h).resolve_left (Ne.symm e)) hl
theorem wipe_same {σ σ' : L2.St} {vs : List Nat} (hl : σ'.length = σ.length) (h : ∀ j, j < σ.length → j ∉ vs → σ'[j]? = (wipe σ vs)[j]?) : wipe σ' vs = wipe σ vs := by
  apply List.ext_getElem?
  intro j
  by_cases hj : j < σ.length
  · by_cases hv : j ∈ vs
    · rw [wipe_at hv hj, wipe_at hv (by rw [hl]; exact hj)]
    · rw [wipe_out hv, h j hj hv]
  · rw [List.getElem?_eq_none (by rw [wipe_length, hl]; omega), List.getElem?_eq_none (by rw [wipe_length]; omega)]
def noE : EX := fun _ _ _ => False
abbrev W0 : WX := fun _ _ _ _ => False
/-- one thing that is let go -/
def take1 : R → Option D
  | .p d => some d
  | .ow o => frz o
  | _ => none
def lcW (vs : List Nat) (b : Bd) (tt : AT) (te : AE) (Q : List D → Gm → Prop) : List D → List D → Gm → Prop
  | [], acc, g => Q acc g
  | d :: ds, acc, g => b d g fun g1 => tt g1 (fun k g2 => if k = true then te g2 (fun r g3 => match take1 r with
      | some d' => acc.length < sizeLine ∧ lcW vs b tt te Q ds (acc ++ [d']) (wipeG g3 vs)
      | none => False) noE else lcW vs b tt te Q ds acc (wipeG g2 vs)) noE
def rLc (T2 vs : List Nat) (b : Bd) (ti : AI) (tt : AT) (te : AE) : AE := fun g Q E => ti g (fun ds sl g1 => (sl.all fun j => !T2.contains j) = true ∧ lcW vs b tt te (fun acc g2 => Q (.ow (.ls acc)) g2) ds [] (wipeG g1 vs)) E
structure JTs (X : Cx) (W : WX) (T : List Nat) (es : List Expr) (t : AT) : Prop where
  pts : PTs X es (liftT X.K W T t)
def rYes : AT := fun g Q _ => Q true g
section
variable {K : PySem.W.Frag} {W : WX} {B T T1 T2 : List Nat} {Z Z1 Z2 : ZS} {H H1 H2 : Hp} {g g1 g2 : Gm} {w w1 w2 : Ow} {σ σ1 : L2.St} {vs : List Nat} {D : Addr} {x : HO}
theorem SO.wipe (S : SO K Z H σ g w) : SO K Z H (L2.wipe σ vs) (wipeG g vs) (fun j => if j ∈ vs then [] else w j) ∧ Pst vs Z H g w Z H (wipeG g vs) (fun j => if j ∈ vs then [] else w j) := by
  refine ⟨⟨by rw [wipeG_len, wipe_length]; exact S.len, fun j o e => ?_, fun j => ?_, fun j k a mj mk => ?_, fun j a m => ?_, fun j a m => ?_, S.zal⟩, ⟨fun _ z => z, fun _ _ _ => rfl, fun _ h => h, fun _ z => .inl z, fun j hj => wipeG_out hj, fun j hj => ?_, fun j hj a m => ?_⟩⟩
  · have hj := wipeG_in e
    rw [wipeG_out hj] at e
    obtain ⟨v, h1, h2⟩ := S.rep j o e
    refine ⟨v, by rw [wipe_out hj]; exact h1, ?_⟩
    rw [if_neg hj]
    exact h2
  · show (if j ∈ vs then [] else w j).Nodup
    split
    · exact List.nodup_nil
    · exact S.nd j
  · have mj : a ∈ if j ∈ vs then [] else w j := mj
    have mk : a ∈ if k ∈ vs then [] else w k := mk
    split at mj <;> split at mk <;> first | exact absurd mj (by simp) | exact absurd mk (by simp) | exact S.dj j k a mj mk
  · have m : a ∈ if j ∈ vs then [] else w j := m
    split at m
    · exact absurd m (by simp)
    · exact S.nz j a m
  · have m : a ∈ if j ∈ vs then [] else w j := m
    split at m
    · exact absurd m (by simp)
    · exact S.wal j a m
  · show (if j ∈ vs then [] else w j) = w j
    rw [if_neg hj]
  · have m : a ∈ if j ∈ vs then [] else w j := m
    rw [if_pos hj] at m
    exact absurd m (by simp)
/-- an object of nobody's is written -/
theorem SO.upd (S : SO K Z H σ g w) (hz : ¬ Z D) (hw : ∀ j, D ∉ w j) : SO K Z (upd H D x) σ g w := by
  have na : ∀ b, b ≠ D → (L2.upd H D x) b = H b := fun b hb => upd_ne hb
  refine ⟨S.len, fun i o e => ?_, S.nd, S.dj, S.nz, fun i a m => ?_, fun a z => ?_⟩
  · obtain ⟨v, h1, h2⟩ := S.rep i o e
    exact ⟨v, h1, h2.kp (fun a z => ⟨z, na a fun e => hz (e ▸ z)⟩) fun a m => na a fun e => hw i (e ▸ m)⟩
  · rw [na a fun e => hw i (e ▸ m)]; exact S.wal i a m
  · rw [na a fun e => hz (e ▸ z)]; exact S.zal a z
theorem Pst.upd (P : Pst T Z H g w Z1 H1 g1 w1) (hD : H D = none) : Pst T Z H g w Z1 (upd H1 D x) g1 w1 := by
  have na : ∀ b, H b ≠ none → (L2.upd H1 D x) b = H1 b := fun b hb => upd_ne fun e => hb (e ▸ hD)
  exact ⟨P.zm, fun a ha h => (na a ha).trans (P.only a ha h), fun a ha => by rw [na a ha]; exact P.al a ha, P.zn, P.fg, P.fw, P.src⟩
end
section
variable {X : Cx} {W : WX} {B T1 T2 T3 T4 vs : List Nat} {elt tg iter : Expr} {ifs : List Expr} {scope : Scope} {pos : Pos} {ti : AI} {b : Bd} {tt : AT} {te : AE}
theorem jts_nil : JTs X W [] [] rYes := ⟨⟨fun pins s σ H Q I ⟨Z, g, w, q, E, S, h, ok, ex⟩ => pts_nil.run pins s σ H Q I (ok true Z H g w h S .refl)⟩⟩
theorem jts_one {c : Expr} {t : AT} (h : JT X W T1 c t) : JTs X W T1 [c] t := ⟨pts_one h.pt⟩
theorem lc_any {J : It} {n : Nat} {g : TG} {tt : TT} {te : TE} {σ : L2.St} {H1 : Hp} {D : Addr} {Qd : Hp → Prop} (Pv : Nat → Hp → Prop) (h0 : Pv 0 (upd H1 D (.lst []))) (go : ∀ i H, i < n → Pv i H → J.go i H)
    (hs : ∀ i x H H', i < n → Pv i H → J.yld i H x H' → g x (wipe σ vs) H' fun σ2 H2 => wipe σ2 vs = wipe σ vs ∧ tt σ2 H2 fun b H3 =>
      if b = true then te σ2 H3 fun y H4 => ∃ acc, H4 D = some (.lst acc) ∧ acc.length < sizeLine ∧ Pv (i + 1) (upd H4 D (.lst (acc ++ [y]))) else Pv (i + 1) H3) (hd : ∀ H, Pv n H → J.stop n H ∧ Qd H) :
    ∃ W : Nat → Nat → Hp → Prop, (∃ m, W 0 m (upd H1 D (.lst []))) ∧ ∀ i m H, W i m H → (J.stop i H ∧ Qd H) ∨ (J.go i H ∧ ∃ Nx : Hp → Prop, (∀ H', Nx H' → ∃ m', m' < m ∧ W (i + 1) m' H') ∧
      ∀ x H', J.yld i H x H' → g x (wipe σ vs) H' fun σ2 H2 => wipe σ2 vs = wipe σ vs ∧ tt σ2 H2 fun b H3 =>
        if b = true then te σ2 H3 fun y H4 => ∃ acc, H4 D = some (.lst acc) ∧ acc.length < sizeLine ∧ Nx (upd H4 D (.lst (acc ++ [y]))) else Nx H3) := by
  refine ⟨fun i m H => m = n - i ∧ i ≤ n ∧ Pv i H, ⟨n, by simp, Nat.zero_le _, h0⟩, ?_⟩
  rintro i m H ⟨rfl, hi, p⟩
  by_cases lt : i < n
  · exact .inr ⟨go i H lt p, Pv (i + 1), fun H' p' => ⟨n - (i + 1), by omega, rfl, lt, p'⟩, fun x H' y => hs i x H H' lt p y⟩
  · have e : i = n := by omega
    subst e
    exact .inl (hd H p)
theorem take1_i {K : PySem.W.Frag} {Z : ZS} {H : Hp} {σ : L2.St} {g : Gm} {w : Ow} {r : R} {v : V} {f : List Addr} {d : VL.D} (h : RRs K Z H σ g w [r] [v] f) (e : take1 r = some d) : PD K (fun a => Z a ∨ a ∈ f) H v d := by
  cases h with
  | p h t => cases t; cases e; exact h.kp Kp.or
  | sl _ _ _ _ => cases e
  | vw _ _ => cases e
  | ow h t => cases t; simpa using h.frz e
/-- B0: the names that are not the comprehension's own -/
theorem lift_lc {B0 TT : List Nat} (hTT : TT = vs ++ (T2 ++ (T3 ++ T4))) (hB0 : ∀ j, j < X.N.length → j ∉ vs → j ∈ B0) {σ : L2.St} (hσ : σ.length = X.N.length) {H : Hp} {Q : VK}
    (h : lift X.K W (T1 ++ TT) (rLc TT vs b ti tt te) σ H Q) :
    tLc (liftI X.K W T1 ti) (liftG X.K B0 T2 b) (liftT X.K W0 T3 tt) (lift X.K W0 T4 te) vs σ H Q := by
  have i0 : ∀ j ∈ vs, j ∈ TT := fun j h => by rw [hTT]; simp [h]
  have i2 : ∀ j ∈ T2, j ∈ TT := fun j h => by rw [hTT]; simp [h]
  have i3 : ∀ j ∈ T3, j ∈ TT := fun j h => by rw [hTT]; simp [h]
  have i4 : ∀ j ∈ T4, j ∈ TT := fun j h => by rw [hTT]; simp [h]
  clear hTT
  obtain ⟨Z, g, w, q, E, S, h, ok, ex⟩ := h
  refine ⟨Z, g, w, _, E, S, h, fun ds sl rs us Z1 H1 g1 w1 f J C q1 O1 it hC => ?_, ex.of⟩
  obtain ⟨hsl, q1⟩ := q1
  obtain ⟨Sw, Pw⟩ := O1.so.wipe (vs := vs)
  intro D hD
  have hDZ : ¬ Z1 D := fun z => O1.so.zal D z hD
  have hDw : ∀ j, D ∉ w1 j := fun j m => O1.so.wal j D m hD
  have hDw' : ∀ j, D ∉ (fun j => if j ∈ vs then [] else w1 j) j := fun j m => Sw.wal j D m hD
  -- what is walked stays
  have keepC : ∀ {Z2 H2 g2 w2}, Pst TT Z1 H1 g1 w1 Z2 H2 g2 w2 → ∀ a ∈ C, H2 a = H1 a := fun P2 a m => P2.only a (hC a m).1 fun j hj mj => by
    have := List.all_eq_true.mp hsl j ((hC a m).2 j mj)
    simp only [Bool.not_eq_true', List.contains_eq_mem, decide_eq_false_iff_not] at this
    exact this hj
  refine lc_any (n := ds.length) (fun i H2 => ∃ Z2 g2 w2 acc av, SO X.K Z2 H2 (wipe σ vs) g2 w2 ∧ Pst TT Z1 H1 g1 w1 Z2 H2 g2 w2 ∧ (∃ g0, g2 = wipeG g0 vs) ∧
      H2 D = some (.lst av) ∧ PDs X.K Z2 H2 av acc ∧ ¬ Z2 D ∧ (∀ j, D ∉ w2 j) ∧ lcW vs b tt te (fun acc g2 => q (.ow (.ls acc)) g2) (ds.drop i) acc g2) ?_ ?_ ?_ ?_
  · exact ⟨Z1, wipeG g1 vs, _, [], [], Sw.upd hDZ hDw', (Pw.upd hD).mono i0, ⟨_, rfl⟩, upd_same, .nil, hDZ, hDw', by simpa using q1⟩
  · rintro i H2 hi ⟨Z2, g2, w2, acc, av, S2, P2, _⟩
    exact it.go Z2 H2 i (P2.kp O1.so) (keepC P2) hi
  · rintro i x H2 H3 hi ⟨Z2, g2, w2, acc, av, S2, P2, ⟨g0, eg⟩, hD2, rav, hZ2, hw2, q2⟩ y
    rw [List.drop_eq_getElem_cons hi] at q2
    obtain ⟨Z3, x3, pd⟩ := it.yl Z2 H2 i ds[i] x H3 (P2.kp O1.so) (keepC P2) S2.zal (List.getElem?_eq_getElem hi) y
    have S3 := S2.ext x3
    have P23 : Pst [] Z2 H2 g2 w2 Z3 H3 g2 w2 := x3.pst
    have q2 : b ds[i] g2 (fun g1 => tt g1 (fun k g2 => if k = true then te g2 (fun r g3 => match take1 r with
      | some d' => acc.length < sizeLine ∧ lcW vs b tt te (fun acc g2 => q (.ow (.ls acc)) g2) (ds.drop (i + 1)) (acc ++ [d']) (wipeG g3 vs)
      | none => False) noE else lcW vs b tt te (fun acc g2 => q (.ow (.ls acc)) g2) (ds.drop (i + 1)) acc (wipeG g2 vs)) noE) := q2
    refine ⟨Z3, g2, w2, ds[i], _, S3, pd, q2, fun g4 w4 σ4 q4 F4 => ?_⟩
    have esame : wipe σ4 vs = wipe σ vs := wipe_same (by rw [F4.ln, wipe_length]) fun j hj hv => F4.sb j (hB0 j (by omega) hv)
    refine ⟨esame, Z3, g4, w4, _, noE, F4.so, q4, fun k Z5 H5 g5 w5 q5 S5 P5 => ?_, fun C' fs d Z' H' g' w' e => e.elim⟩
    -- from the turn's begin to here
    have P25 : Pst TT Z2 H2 g2 w2 Z5 H5 g5 w5 := ((P23.trans F4.ps).trans P5).mono fun j hj => by
      simp only [List.mem_append, List.not_mem_nil, false_or] at hj
      exact hj.elim (i2 j) (i3 j)
    have a0 : H2 D ≠ none := by rw [hD2]; simp
    -- the new list stays out of all
    have far : ∀ {Z6 H6 g6 w6}, Pst TT Z2 H2 g2 w2 Z6 H6 g6 w6 → H6 D = some (.lst av) ∧ ¬ Z6 D ∧ (∀ j, D ∉ w6 j) ∧ PDs X.K Z6 H6 av acc := fun {Z6 H6 g6 w6} P => by
      refine ⟨(P.only D a0 fun j _ => hw2 j).trans hD2, fun z => ?_, fun j m => ?_, rav.kp (P.kp S2)⟩
      · rcases P.zn D z with z | z | ⟨j, _, m⟩
        · exact hZ2 z
        · exact a0 z
        · exact hw2 j m
      · by_cases hj : j ∈ TT
        · rcases P.src j hj D m with z | ⟨k, _, mk⟩
          · exact a0 z
          · exact hw2 k mk
        · rw [P.fw j hj] at m
          exact hw2 j m
    have next : ∀ {Z6 H6 g6 w6}, SO X.K Z6 H6 σ4 g6 w6 → Pst TT Z2 H2 g2 w2 Z6 H6 g6 w6 → ∃ w7, SO X.K Z6 H6 (wipe σ vs) (wipeG g6 vs) w7 ∧ Pst TT Z1 H1 g1 w1 Z6 H6 (wipeG g6 vs) w7 ∧ ((∀ j, D ∉ w6 j) → ∀ j, D ∉ w7 j) := fun {Z6 H6 g6 w6} S6 P6 => by
      obtain ⟨S7, P7⟩ := S6.wipe (vs := vs)
      rw [esame] at S7
      refine ⟨_, S7, ((P2.trans P6).trans P7).mono fun j hj => ?_, fun h j m => ?_⟩
      · simp only [List.mem_append] at hj
        rcases hj with (hj | hj) | hj
        · exact hj
        · exact hj
        · exact i0 j hj
      · have m : D ∈ if j ∈ vs then [] else w6 j := m
        split at m
        · exact absurd m (by simp)
        · exact h j m
    cases k with
    | false =>
      show if false = true then _ else _
      rw [if_neg Bool.false_ne_true] at q5 ⊢
      obtain ⟨w7, S7, P7, hw7⟩ := next S5 P25
      obtain ⟨f1, f2, f3, f4⟩ := far P25
      exact ⟨Z5, _, w7, acc, av, S7, P7, ⟨_, rfl⟩, f1, f4, f2, hw7 f3, q5⟩
    | true =>
      show if true = true then _ else _
      rw [if_pos rfl] at q5 ⊢
      refine ⟨Z5, g5, w5, _, noE, S5, q5, fun r v Z6 H6 g6 w6 f6 q6 O6 => ?_, fun C' fs d Z' H' g' w' e => e.elim⟩
      cases e1 : take1 r with
      | none => rw [e1] at q6; exact q6.elim
      | some d' =>
        rw [e1] at q6
        obtain ⟨hz, q6⟩ := q6
        have L := O6.let
        have P26 : Pst TT Z2 H2 g2 w2 (fun a => Z6 a ∨ a ∈ f6) H6 g6 w6 := (P25.trans L.ps).mono fun j hj => by
          simp only [List.mem_append] at hj
          exact hj.elim id (i4 j)
        obtain ⟨w7, S7, P7, hw7⟩ := next L.so P26
        obtain ⟨f1, f2, f3, f4⟩ := far P26
        have pv := take1_i O6.rr e1
        refine ⟨av, f1, by rw [f4.length]; exact hz, _, _, w7, acc ++ [d'], av ++ [v], S7.upd f2 (hw7 f3), P7.upd hD, ⟨_, rfl⟩, upd_same, ?_, f2, hw7 f3, q6⟩
        have kp : Kp (fun a => Z6 a ∨ a ∈ f6) (fun a => Z6 a ∨ a ∈ f6) H6 (upd H6 D (.lst (av ++ [v]))) := fun a z => ⟨z, upd_ne fun (e : a = D) => f2 (e ▸ z)⟩
        exact (f4.append (.cons pv .nil)).kp kp
  · rintro H2 ⟨Z2, g2, w2, acc, av, S2, P2, ⟨g0, eg⟩, hD2, rav, hZ2, hw2, q2⟩
    refine ⟨it.st Z2 H2 (P2.kp O1.so) (keepC P2), ?_⟩
    rw [List.drop_length] at q2
    have S2' : SO X.K Z2 H2 σ g2 w2 := by
      refine ⟨by have := S2.len; rwa [wipe_length] at this, fun j o e => ?_, S2.nd, S2.dj, S2.nz, S2.wal, S2.zal⟩
      obtain ⟨v, h1, h2⟩ := S2.rep j o e
      have hj : j ∉ vs := by
        rw [eg] at e
        exact wipeG_in e
      exact ⟨v, by rw [wipe_out hj] at h1; exact h1, h2⟩
    have hn : H D = none := by
      cases e : H D with
      | none => rfl
      | some o => exact absurd hD (O1.ps.al D (by rw [e]; simp))
    refine ok _ (.ref D) Z2 H2 g2 w2 [D] q2 ⟨S2', O1.ps.trans P2, by simpa using RRs.ow (σ := σ) (g := g2) (w := w2) (RO.ls hD2 rav) .nil, by simp, fun a m => by rw [List.mem_singleton.mp m]; exact hZ2, fun a m => by rw [List.mem_singleton.mp m]; exact hw2, fun a m => by rw [List.mem_singleton.mp m, hD2]; simp, fun a m => .inl (by rw [List.mem_singleton.mp m]; exact hn)⟩
theorem je_lc {B0 : List Nat} {own : List (Str × Nat)} (hB0 : ∀ j, j < X.N.length → j ∉ own.map (·.2) → j ∈ B0) (hc : X.calm = true) (hN : X.N.Nodup) (hi : JI X W T1 tg iter ti) (ok : BlkOk X.N X.env.scope scope own)
    (hg : ∀ (s : Shared) (H : Hp) (C : Addr) (cl : List (Str × Addr)) (fp : List Addr), JG (X.blk s H scope (compEnvC scope cl C X.env) fp) B0 T2 tg b)
    (ht : ∀ (s : Shared) (H : Hp) (C : Addr) (cl : List (Str × Addr)) (fp : List Addr), JTs (X.blk s H scope (compEnvC scope cl C X.env) fp) W0 T3 ifs tt)
    (he : ∀ (s : Shared) (H : Hp) (C : Addr) (cl : List (Str × Addr)) (fp : List Addr), JE (X.blk s H scope (compEnvC scope cl C X.env) fp) W0 T4 elt te) (hs : ∀ x, foldedSetIterable iter X.env x = pure x := by intro _; rfl) :
    JE X W (T1 ++ (own.map (·.2) ++ (T2 ++ (T3 ++ T4)))) (.ListComp elt [⟨tg, iter, ifs, 0⟩] scope pos) (rLc (own.map (·.2) ++ (T2 ++ (T3 ++ T4))) (own.map (·.2)) b ti tt te) := by
  have base := pe_lc (te := lift X.K W0 T4 te) (tt := liftT X.K W0 T3 tt) (g := liftG X.K B0 T2 b) (wi := liftI X.K W T1 ti) (pos := pos) hc hN hi.pi ok (fun s H C cl fp => (hg s H C cl fp).pg) (fun s H C cl fp => (ht s H C cl fp).pts) (fun s H C cl fp => (he s H C cl fp).pe) hs
  exact ⟨⟨fun pins s σ H Q I q => base.run pins s σ H Q I (lift_lc (X := X) rfl hB0 I.len q)⟩⟩
theorem js_setLc {B0 : List Nat} {i : Nat} {y : Str} {py spos : Pos} {own : List (Str × Nat)} (hB0 : ∀ j, j < X.N.length → j ∉ own.map (·.2) → j ∈ B0) (hB : B.contains i = false) (hc : X.calm = true) (hN : X.N.Nodup) (hy : X.N[i]? = some y) (hyl : X.env.scope.names.lookup y = some .local)
    (hsw : swapsWith (.ListComp elt [⟨tg, iter, ifs, 0⟩] scope pos) (some (.Name y py)) spos.line X.env = pure true) (hi : JI X W T1 tg iter ti) (ok : BlkOk X.N X.env.scope scope own)
    (hg : ∀ (s : Shared) (H : Hp) (C : Addr) (cl : List (Str × Addr)) (fp : List Addr), JG (X.blk s H scope (compEnvC scope cl C X.env) fp) B0 T2 tg b)
    (ht : ∀ (s : Shared) (H : Hp) (C : Addr) (cl : List (Str × Addr)) (fp : List Addr), JTs (X.blk s H scope (compEnvC scope cl C X.env) fp) W0 T3 ifs tt)
    (he : ∀ (s : Shared) (H : Hp) (C : Addr) (cl : List (Str × Addr)) (fp : List Addr), JE (X.blk s H scope (compEnvC scope cl C X.env) fp) W0 T4 elt te) (hs : ∀ x, foldedSetIterable iter X.env x = pure x := by intro _; rfl) :
    JS X W B ((T1 ++ (own.map (·.2) ++ (T2 ++ (T3 ++ T4)))) ++ [i]) (.Assign [.Name y py] (.ListComp elt [⟨tg, iter, ifs, 0⟩] scope pos) spos) (sSet i (rLc (own.map (·.2) ++ (T2 ++ (T3 ++ T4))) (own.map (·.2)) b ti tt te)) := by
  have base := ps_setLc (te := lift X.K W0 T4 te) (tt := liftT X.K W0 T3 tt) (g := liftG X.K B0 T2 b) (wi := liftI X.K W T1 ti) (pos := pos) (py := py) (spos := spos) hc hN hy hyl hsw hi.pi ok (fun s H C cl fp => (hg s H C cl fp).pg) (fun s H C cl fp => (ht s H C cl fp).pts) (fun s H C cl fp => (he s H C cl fp).pe) hs
  refine ⟨⟨fun pins s σ H D I ⟨Z, g, w, N, S, h, ok', rt, ex⟩ => base.run pins s σ H D I (lift_lc (X := X) rfl hB0 I.len ?_)⟩⟩
  refine ⟨Z, g, w, _, N.ex, S, h, fun r v Z1 H1 g1 w1 f1 q1 O1 => ?_, ex.e app_l⟩
  cases e1 : own1 r with
  | none => rw [e1] at q1; exact q1.elim
  | some o =>
    rw [e1] at q1
    exact (ok' _ _ _ _ _ (O1.store e1 hB)).1 q1
end
end VL

namespace VL
open PySem PySem.Spec L2

/-! ### 24. Built-in calls on plain data -/
def tyN : D → String
  | .none => "NoneType"
  | .bool _ => "bool"
  | .int _ => "int"
  | .str _ => "str"
  | .list _ => "list"
  | .tuple _ => "tuple"
  | .dict _ => "dict"
section
variable {K : PySem.W.Frag} {Z : ZS} {H : Hp} {v : V} {d : D} {a : Addr} {xs : List V}
theorem SqL.tx (h : SqL K H a xs) : TyX K H (.ref a) (.type "list") := by
  rcases h with (h | ⟨o, h⟩) | ⟨o, its, n, h1, h2, _⟩
  · exact .base (.lst h)
  · exact .base (.frz h)
  · exact .kList h1 h2
theorem SqT.tx (h : SqT K H a xs) : TyX K H (.ref a) (.type "tuple") := by
  rcases h with (h | ⟨o, h⟩) | ⟨o, its, n, h1, h2, _⟩
  · exact .base (.tup h)
  · exact .fTuple h
  · exact .kTuple h1 h2
theorem PDu.tx (h : PDu K Z H v d) : TyX K H v (.type (tyN d)) := by
  cases d with
  | none => rw [PDt.non_i h]; exact .base .non
  | bool b => rw [PDt.bl_i h]; exact .base (.bl b)
  | int i => rw [PDt.int_i h]; exact .base (.int i)
  | str x => rw [PDt.str_i h]; exact .base (.str x)
  | list ds => obtain ⟨a, xs, rfl, hx, _⟩ := h; exact SqL.tx hx
  | tuple ds => obtain ⟨a, xs, rfl, hx, _⟩ := PD.tup_i h; exact SqT.tx hx
  | dict es => obtain ⟨a, xs, rfl, hx, _⟩ := h; exact .base (.dK hx)
end
/-- isinstance(e, T) for a built-in T -/
def rIsi1 (T : String) (te : AE) : AE := fun g Q E => te g (fun r g1 => match datu r with
  | some d => ∃ b, kitB (tyN d) T = some b ∧ Q (.p (.bool b)) g1
  | none => False) E
section
variable {X : Cx} {W : WX} {T T1 T2 : List Nat} {e o c : Expr} {es : List Expr} {te to : AE} {tas : AA} {pos p apos : Pos} {aop : Aop}
theorem je_isi (Ty : String) {cx : Str} {cp : Pos} (he : JE X W T e te) (hg : Gl X "isinstance") (hm : X.mg "isinstance" = none) (hgc : Gl X cx) (hmc : X.mg cx = none) (hvc : bootBuiltins cx = some (.type Ty)) (hn : cx ≠ "__name__" := by decide) (hdb : (cx == ("__debug__" : Str)) = false := by decide)
    (hs : starEach (e :: [.Name cx cp]) X.env = (false, eval e X.env) :: starEach [.Name cx cp] X.env := by rfl) (hpl : (backTo pos (starEach [Expr.Name cx cp] X.env)).any (·.1) = false := by rfl) (hs2 : starEach [Expr.Name cx cp] X.env = [(false, eval (.Name cx cp) X.env)] := by rfl) :
    JE X W T (.Call (.Name "isinstance" p) [e, .Name cx cp] [] pos) (rIsi1 Ty te) := by
  refine ⟨PEi (pe_callB call_isi hg hm PyProof.Rows.boot_isinstance (pa_cons he.pe (pa_cons (pe_bltn hgc hmc hvc (v := .ty Ty) rfl hn hdb) pa_nil) (hs := hs)) (by decide) (by decide) hs hpl) fun σ H Q ⟨Z, g, w, q, E, S, h, ok, ex⟩ => ?_⟩
  refine ⟨Z, g, w, _, E, S, h, fun r v Z1 H1 g1 w1 f1 q1 O1 => ?_, ex⟩
  cases e1 : datu r with
  | none => rw [e1] at q1; exact q1.elim
  | some d =>
    rw [e1] at q1
    obtain ⟨b, e2, q1⟩ := q1
    have hv := O1.rr.u (ds := [d]) (by simp only [datL]; rw [e1])
    cases hv with
    | cons hv _ =>
      refine ⟨v, .ty Ty, _, _, b, rfl, .ty Ty, hv.tx, kit_ty e2, ?_⟩
      exact ok _ _ Z1 H1 g1 w1 [] q1 (O1.op (Ext.refl O1.so.zal) (RR1.p (d := .bool b) (PD.bl _)))
theorem kit_bb : kitB "bool" "bool" = some true := by decide +kernel
def aMax : Aop
  | [.int i, .int j], k => k (.p (.int (if j > i then j else i)))
  | _, _ => False
theorem ok_max {K : PySem.W.Frag} : POu K (fun xs H Q => ∃ i j, xs = [.int i, .int j] ∧ Q (.int (if j > i then j else i)) H) aMax := by
  intro Z H vs ds k Q zl h2 h ret
  unfold aMax at h
  split at h
  · obtain ⟨x, y, rfl, h1, h2⟩ := all2_2 h2
    rw [h1.int_i, h2.int_i]
    exact ⟨_, _, rfl, ret _ _ Z H [] h (Ext.refl zl) (.p (.int _))⟩
  · exact h.elim
def aMin : Aop
  | [.int i, .int j], k => k (.p (.int (if j < i then j else i)))
  | _, _ => False
theorem ok_min {K : PySem.W.Frag} : POu K (fun xs H Q => ∃ i j, xs = [.int i, .int j] ∧ Q (.int (if j < i then j else i)) H) aMin := by
  intro Z H vs ds k Q zl h2 h ret
  unfold aMin at h
  split at h
  · obtain ⟨x, y, rfl, h1, h2⟩ := all2_2 h2
    rw [h1.int_i, h2.int_i]
    exact ⟨_, _, rfl, ret _ _ Z H [] h (Ext.refl zl) (.p (.int _))⟩
  · exact h.elim
def aInt : Aop
  | [.int i], k => k (.p (.int i))
  | [.bool b], k => k (.p (.int (if b then 1 else 0)))
  | _, _ => False
theorem ok_int {K : PySem.W.Frag} : POu K (fun xs H Q => (∃ i, xs = [.int i] ∧ Q (.int i) H) ∨ ∃ k, xs = [.bl k] ∧ Q (.int (if k then 1 else 0)) H) aInt := by
  intro Z H vs ds k Q zl h2 h ret
  unfold aInt at h
  split at h
  · obtain ⟨x, rfl, h1⟩ := all2_1 h2
    rw [h1.int_i]
    exact .inl ⟨_, rfl, ret _ _ Z H [] h (Ext.refl zl) (.p (.int _))⟩
  · obtain ⟨x, rfl, h1⟩ := all2_1 h2
    rw [h1.bl_i]
    exact .inr ⟨_, rfl, ret _ _ Z H [] h (Ext.refl zl) (.p (.int _))⟩
  · exact h.elim
def aStrI : Aop
  | [.int i], k => i.natAbs.log2 < 1920 ∧ k (.p (.str (toString i)))
  | _, _ => False
theorem ok_strI {K : PySem.W.Frag} : POu K (fun xs H Q => ∃ i, xs = [.int i] ∧ i.natAbs.log2 < 1920 ∧ Q (.str (toString i)) H) aStrI := by
  intro Z H vs ds k Q zl h2 h ret
  unfold aStrI at h
  split at h
  · obtain ⟨x, rfl, h1⟩ := all2_1 h2
    rw [h1.int_i]
    exact ⟨_, rfl, h.1, ret _ _ Z H [] h.2 (Ext.refl zl) (.p (.str _))⟩
  · exact h.elim
/-- a list or a tuple of plain data, as it is read -/
theorem PDu.sq {K : PySem.W.Frag} {Z : ZS} {H : Hp} {v : V} {ds : List D} (h : PDu K Z H v (.list ds)) : ∃ a xs, v = .ref a ∧ SqL K H a xs ∧ PDs K Z H xs ds := h
theorem PDu.sqt {K : PySem.W.Frag} {Z : ZS} {H : Hp} {v : V} {ds : List D} (h : PDu K Z H v (.tuple ds)) : ∃ a xs, v = .ref a ∧ SqT K H a xs ∧ PDs K Z H xs ds := PD.tup_i h
def aListOf : Aop
  | [.list ds], k => k (.ow (.ls ds))
  | [.tuple ds], k => k (.ow (.ls ds))
  | _, _ => False
theorem ok_listOf {K : PySem.W.Frag} : POu K (fun xs H Q => ∃ p ys, xs = [.ref p] ∧ (SqL K H p ys ∨ SqT K H p ys) ∧ ∀ l, H l = none → Q (.ref l) (upd H l (.lst ys))) aListOf := by
  intro Z H vs ds k Q zl h2 h ret
  unfold aListOf at h
  split at h
  · obtain ⟨x, rfl, h1⟩ := all2_1 h2
    obtain ⟨a, xs, rfl, hx, rx⟩ := h1.sq
    exact ⟨_, _, rfl, .inl hx, fun l hl => ret _ _ Z _ [l] h (Ext.own zl hl) (.ow (.ls upd_same (rx.kp (Kp.own zl hl))))⟩
  · obtain ⟨x, rfl, h1⟩ := all2_1 h2
    obtain ⟨a, xs, rfl, hx, rx⟩ := h1.sqt
    exact ⟨_, _, rfl, .inr hx, fun l hl => ret _ _ Z _ [l] h (Ext.own zl hl) (.ow (.ls upd_same (rx.kp (Kp.own zl hl))))⟩
  · exact h.elim
def aTupOf : Aop
  | [.list ds], k => k (.p (.tuple ds))
  | [.tuple ds], k => k (.p (.tuple ds))
  | _, _ => False
theorem ok_tupOf {K : PySem.W.Frag} : POu K (fun xs H Q => ∃ p ys, xs = [.ref p] ∧ ((SqL K H p ys ∧ ∀ l, H l = none → Q (.ref l) (upd H l (.tup ys))) ∨ (SqT K H p ys ∧ Q (.ref p) H))) aTupOf := by
  intro Z H vs ds k Q zl h2 h ret
  unfold aTupOf at h
  split at h
  · obtain ⟨x, rfl, h1⟩ := all2_1 h2
    obtain ⟨a, xs, rfl, hx, rx⟩ := h1.sq
    exact ⟨_, _, rfl, .inl ⟨hx, fun l hl => ret _ _ _ _ [] h (Ext.new zl hl) (.p (.tup (.inl ⟨.inr rfl, .inl upd_same⟩) (rx.kp (Kp.new zl hl))))⟩⟩
  · obtain ⟨x, rfl, h1⟩ := all2_1 h2
    have h1' : PD K Z H x (.tuple _) := h1
    obtain ⟨a, xs, rfl, hx, rx⟩ := h1.sqt
    exact ⟨_, _, rfl, .inr ⟨hx, ret _ _ Z H [] h (Ext.refl zl) (.p h1')⟩⟩
  · exact h.elim
def blsOf : List D → Option (List Bool)
  | [] => some []
  | .bool b :: ds => (blsOf ds).map (b :: ·)
  | _ => none
theorem PDs.bls {K : PySem.W.Frag} {Z : ZS} {H : Hp} : ∀ {vs : List V} {ds : List D} {bs : List Bool}, PDs K Z H vs ds → blsOf ds = some bs → vs = bs.map V.bl
  | _, _, bs, .nil, e => by cases e; rfl
  | _, d :: ds, bs, .cons h t, e => by
    cases d <;> simp only [blsOf, Option.map_eq_some_iff, reduceCtorEq] at e
    obtain ⟨bs', e1, rfl⟩ := e
    rw [PDt.bl_i h.t, PDs.bls t e1]
    rfl
def aAll : Aop
  | [.list ds], k => ∃ bs, blsOf ds = some bs ∧ k (.p (.bool (bs.all id)))
  | _, _ => False
theorem ok_all {K : PySem.W.Frag} : POu K (rAll K) aAll := by
  intro Z H vs ds k Q zl h2 h ret
  unfold aAll at h
  split at h
  · obtain ⟨x, rfl, h1⟩ := all2_1 h2
    obtain ⟨a, xs, rfl, hx, rx⟩ := h1.sq
    obtain ⟨bs, e, hk⟩ := h
    cases rx.bls e
    exact ⟨_, _, rfl, hx, ret _ _ Z H [] hk (Ext.refl zl) (.p (.bl _))⟩
  · exact h.elim
def aAny : Aop
  | [.list ds], k => ∃ bs, blsOf ds = some bs ∧ k (.p (.bool (bs.any id)))
  | _, _ => False
theorem ok_any {K : PySem.W.Frag} : POu K (rAny K) aAny := by
  intro Z H vs ds k Q zl h2 h ret
  unfold aAny at h
  split at h
  · obtain ⟨x, rfl, h1⟩ := all2_1 h2
    obtain ⟨a, xs, rfl, hx, rx⟩ := h1.sq
    obtain ⟨bs, e, hk⟩ := h
    cases rx.bls e
    exact ⟨_, _, rfl, hx, ret _ _ Z H [] hk (Ext.refl zl) (.p (.bl _))⟩
  · exact h.elim

/-! ### 25. Methods of texts -/
def rM0 (aop : Aop) (to : AE) : AE := fun g Q E => to g (fun r g1 => match r with
  | .p (.str a) => aop [.str a] fun rr => Q rr g1
  | _ => False) E
def rM1 (aop : Aop) (to te : AE) : AE := fun g Q E => to g (fun r g1 => match r with
  | .p (.str a) => te g1 (fun r2 g2 => match datu r2 with
    | some d => aop [.str a, d] fun rr => Q rr g2
    | none => False) E
  | _ => False) E
def mr (r : V → List V → Hp → VK → Prop) : List V → Hp → VK → Prop := fun vs H Q => ∃ x xs, vs = x :: xs ∧ r x xs H Q
theorem je_m0 {id : String} {name : Str} {r : V → List V → Hp → VK → Prop} (slot : Slot "str" name id) (ty : typeOf (.builtin id) = pure (.type "method_descriptor")) (rule : MtR X id r) (hp : POu X.K (mr r) aop) (ho : JE X W T o to)
    (hbase : attributeBase o name X.env (eval o X.env) = eval o X.env := by rfl) (hline : (apos.endLine == pos.line) = true := by rfl) : JE X W T (.Call (.Attribute o name apos) [] [] pos) (rM0 aop to) := by
  refine ⟨PEi (pe_m0 slot ty rule ho.pe hbase hline) fun σ H Q ⟨Z, g, w, q, E, S, h, ok, ex⟩ => ?_⟩
  refine ⟨Z, g, w, _, E, S, h, fun r1 v Z1 H1 g1 w1 f1 q1 O1 => ?_, ex⟩
  split at q1
  · rename_i a
    have hv := PDt.str_i (O1.rr.p1.1).t
    subst hv
    refine ⟨⟨a, rfl⟩, ?_⟩
    obtain ⟨x, xs, e, hr⟩ := hp Z1 H1 [.str a] [.str a] _ Q O1.so.zal (.cons (PDt.u (PD.t (.str a))) .nil) q1 fun rr v Z' H' f kk x rr1 => ok rr v Z' H' g1 w1 f kk (O1.op x rr1)
    cases e
    exact hr
  · exact q1.elim
theorem je_m1 {id : String} {name : Str} {r : V → List V → Hp → VK → Prop} (slot : Slot "str" name id) (ty : typeOf (.builtin id) = pure (.type "method_descriptor")) (rule : MtR X id r) (hp : POu X.K (mr r) aop) (ho : JE X W T1 o to) (he : JE X W T2 e te)
    (hs : starEach [e] X.env = [(false, eval e X.env)] := by rfl) (hbase : attributeBase o name X.env (eval o X.env) = eval o X.env := by rfl) (hline : (apos.endLine == pos.line) = true := by rfl) : JE X W (T1 ++ T2) (.Call (.Attribute o name apos) [e] [] pos) (rM1 aop to te) := by
  refine ⟨PEi (pe_m1 slot ty rule ho.pe he.pe hs hbase hline) fun σ H Q ⟨Z, g, w, q, E, S, h, ok, ex⟩ => ?_⟩
  refine ⟨Z, g, w, _, E, S, h, fun r1 v Z1 H1 g1 w1 f1 q1 O1 => ?_, ex.of⟩
  split at q1
  · rename_i a
    have hv := PDt.str_i (O1.rr.p1.1).t
    subst hv
    refine ⟨⟨a, rfl⟩, Z1, g1, w1, _, E, O1.so, q1, fun r2 v2 Z2 H2 g2 w2 f2 q2 O2 => ?_, ex.then O1.ps⟩
    have O3 := O1.cons O2 trivial
    cases e : datu r2 with
    | none => rw [e] at q2; exact q2.elim
    | some d =>
      rw [e] at q2
      have hv := O3.rr.u (ds := [.str a, d]) (by simp only [datL]; rw [e]; rfl)
      obtain ⟨x, xs, e3, hr⟩ := hp Z2 H2 _ _ _ Q O3.so.zal hv q2 fun rr v Z' H' f kk x rr1 => ok rr v Z' H' g2 w2 f kk (O3.op x rr1)
      cases e3
      exact hr
  · exact q1.elim
def strsOf : List D → Option (List Str)
  | [] => some []
  | .str b :: ds => (strsOf ds).map (b :: ·)
  | _ => none
theorem PDs.strs {K : PySem.W.Frag} {Z : ZS} {H : Hp} : ∀ {vs : List V} {ds : List D} {bs : List Str}, PDs K Z H vs ds → strsOf ds = some bs → vs = bs.map V.str
  | _, _, bs, .nil, e => by cases e; rfl
  | _, d :: ds, bs, .cons h t, e => by
    cases d <;> simp only [strsOf, Option.map_eq_some_iff, reduceCtorEq] at e
    obtain ⟨bs', e1, rfl⟩ := e
    rw [PDt.str_i h.t, PDs.strs t e1]
    rfl
theorem strs_pd {K : PySem.W.Frag} {Z : ZS} {H : Hp} : ∀ (ys : List Str), PDs K Z H (ys.map V.str) (ys.map PyData.str)
  | [] => .nil
  | y :: ys => .cons (.str y) (strs_pd ys)
def aJoin : Aop
  | [.str a, .list ds], k => ∃ ys, strsOf ds = some ys ∧ (ys.map (·.length)).sum + ys.length * a.length ≤ 16777216 ∧ k (.p (.str (Txt.join a ys)))
  | [.str a, .tuple ds], k => ∃ ys, strsOf ds = some ys ∧ (ys.map (·.length)).sum + ys.length * a.length ≤ 16777216 ∧ k (.p (.str (Txt.join a ys)))
  | _, _ => False
theorem ok_join {K : PySem.W.Frag} : POu K (mr fun x xs H Q => ∃ a p, ∃ ys : List Str, x = .str a ∧ xs = [.ref p] ∧ (SqL K H p (ys.map V.str) ∨ SqT K H p (ys.map V.str)) ∧ (ys.map (·.length)).sum + ys.length * a.length ≤ 16777216 ∧ Q (.str (Txt.join a ys)) H) aJoin := by
  intro Z H vs ds k Q zl h2 h ret
  unfold aJoin at h
  split at h
  · obtain ⟨x, y, rfl, h1, h2⟩ := all2_2 h2
    obtain ⟨a, xs, rfl, hx, rx⟩ := h2.sq
    obtain ⟨ys, e, hz, hk⟩ := h
    cases rx.strs e
    rw [h1.str_i]
    exact ⟨_, _, rfl, _, _, _, rfl, rfl, .inl hx, hz, ret _ _ Z H [] hk (Ext.refl zl) (.p (.str _))⟩
  · obtain ⟨x, y, rfl, h1, h2⟩ := all2_2 h2
    obtain ⟨a, xs, rfl, hx, rx⟩ := h2.sqt
    obtain ⟨ys, e, hz, hk⟩ := h
    cases rx.strs e
    rw [h1.str_i]
    exact ⟨_, _, rfl, _, _, _, rfl, rfl, .inr hx, hz, ret _ _ Z H [] hk (Ext.refl zl) (.p (.str _))⟩
  · exact h.elim
def aUpper : Aop
  | [.str a], k => a.length ≤ 5592405 ∧ k (.p (.str (Txt.upper a)))
  | _, _ => False
theorem ok_upper {K : PySem.W.Frag} : POu K (mr fun x xs H Q => ∃ a, x = .str a ∧ xs = [] ∧ a.length ≤ 5592405 ∧ Q (.str (Txt.upper a)) H) aUpper := by
  intro Z H vs ds k Q zl h2 h ret
  unfold aUpper at h
  split at h
  · obtain ⟨x, rfl, h1⟩ := all2_1 h2
    rw [h1.str_i]
    exact ⟨_, _, rfl, _, rfl, rfl, h.1, ret _ _ Z H [] h.2 (Ext.refl zl) (.p (.str _))⟩
  · exact h.elim
def aSplit : Aop
  | [.str a, .str b], k => (b.length == 0) = false ∧ a.length + 2 ≤ sizeLine ∧ k (.ow (.ls ((Txt.split a b).map PyData.str)))
  | _, _ => False
end
end VL

namespace VL
open PySem PySem.Spec PyProof.Rows L2

/-! ### 26. The law's own call -/
/-- what is known of the start: of the script alone an object may be tracked, and it stands -/
structure Start (P : Program) (w : World) (K : PySem.W.Frag) (s : Shared) (a : Addr) (ob : Obj) (ns : List Int) (H : Hp) : Prop where
  sq : (H a = some (.frz ob (.lst (ns.map V.int)))) ∨ ((∀ b, H b = none) ∧ ∀ H', SqL K H' a (ns.map V.int))
  ok : HOk P w H s.heap
  on : ∀ b, H b ≠ none → b = a
  nk : H a ≠ none → K.lookup a = none
section
variable {P : Program} {w : World} {K : PySem.W.Frag} {mg mb : Str → Option Value} {k : Nat} {fa a : Addr} {fd : FuncData} {x : Str} {B : List Nat} {sp : ASp} {s : Shared} {us : List Value} {ns : List Int} {H : Hp} {ob : Obj}
theorem Start.none (S : Start P w K s a ob ns H) {b : Addr} (h : b ≠ a) : H b = .none := by
  cases e : H b with
  | none => rfl
  | some u => exact absurd (S.on b (by rw [e]; exact Option.some_ne_none u)) h
theorem start_ex (kx : K.In s.heap) (ha : s.heap.get? a = some ⟨.type "list", .none, .seq us.toArray 0, #[]⟩) (hi : IntsAre us ns) (hl : ns.length ≤ sizeLine) : ∃ H, Start P w K s a ⟨.type "list", .none, .seq us.toArray 0, #[]⟩ ns H := by
  have rv := vals_ints hi
  cases e : K.lookup a with
  | some o =>
    have e1 := kx a o e
    rw [ha] at e1
    cases e1
    refine ⟨fun _ => .none, .inr ⟨fun _ => rfl, fun H' => .inr ⟨_, us.toArray, 0, e, rfl, rfl, rfl, ?_, ?_⟩⟩, fun b u z => (nomatch z), fun b z => (z rfl).elim, fun z => (z rfl).elim⟩
    · rw [List.size_toArray, hi.length]; exact hl
    · simpa using rv
  | none =>
    refine ⟨upd (fun _ => .none) a (.frz ⟨.type "list", .none, .seq us.toArray 0, #[]⟩ (.lst (ns.map V.int))), .inl upd_same, fun b u z => ?_, fun b z => ?_, fun _ => e⟩
    · by_cases h : b = a
      · subst h
        rw [upd_same] at z
        cases z
        exact ⟨ha, by rw [List.length_map]; exact hl, us, 0, rv, ha⟩
      · rw [upd_ne h] at z
        cases z
    · by_cases h : b = a
      · exact h
      · rw [upd_ne h] at z
        exact (z rfl).elim
theorem go_law (kx : K.In s.heap) (ns1 : s.heap.Ns mainGlobals mg) (ns2 : s.heap.Ns builtinsNs mb) (bb : ∀ x : Str, x ≠ "__name__" → mb x = bootBuiltins x) (lim : s.heap.NoLimit) (gn : s.gens = #[])
    (ha : s.heap.get? a = some ⟨.type "list", .none, .seq us.toArray 0, #[]⟩) (S : Start P w K s a ⟨.type "list", .none, .seq us.toArray 0, #[]⟩ ns H) (hr : Room k callerA)
    (F : ∀ base : Heap, K.In base → base.Ns mainGlobals mg → FnV P w K mg base k fa fd [x] B sp) (hb : ∀ (s : Shared) (u : Value), BindsTo s fd ⟨[u], []⟩ [(x, u)])
    (hsp : sp [.fl ns] (fun r _ => r = .p (.bool true)) fun _ _ _ => False) :
    codeAny (model P w) callerA (.call (.ref fa) ⟨[.ref a], []⟩) (fun r s' => r = .ok (.ret (.bool true)) ∧ OldK s.heap s'.heap ∧ s'.os = s.os ∧ AllBare s'.gens) s := by
  have hid : ∀ {b : Addr} {o : Obj}, s.heap.get? b = some o → b ≠ a → (hidT s.heap H).get? b = some o := fun e n => hidT_get e (S.none n)
  have notA : ∀ {b : Addr} {o : Obj} {es : Array DictEntry} {ep : Nat}, s.heap.get? b = some o → o.data = .dict es ep → b ≠ a := by
    rintro b o es ep e d rfl
    rw [ha] at e
    cases e
    cases d
  have kb : K.In (hidT s.heap H) := fun b o e => hidT_get (kx b o e) (by
    by_cases h : b = a
    · subst h
      cases q : H b with
      | none => rfl
      | some u =>
        rw [S.nk (by rw [q]; exact Option.some_ne_none u)] at e
        cases e
    · exact S.none h)
  have nsb : ∀ {b : Addr} {m : Str → Option Value}, s.heap.Ns b m → (hidT s.heap H).Ns b m := fun ⟨o, es, ep, e, d, r⟩ => ⟨o, es, ep, hid e (notA e d), d, r⟩
  obtain ⟨mc, lm1, lm2⟩ := lim
  have e0 : Env0 P w K mg (hidT s.heap H) callerA [] s H := by
    refine ⟨rfl, ⟨kb, nsb ns1, ⟨mb, nsb ns2, bb⟩, mc, nsb lm1, lm2⟩, fun b o e => of_hidT e, Nat.le_of_eq (hidT_size _ _), trivial, fun b m => ?_, S.ok, .of_eq gn⟩
    exact absurd m List.not_mem_nil
  -- the argument
  have cf : CF K (fun b => H b ≠ none) H a (ns.map V.int) := by
    rcases S.sq with h | ⟨_, h⟩
    · exact .inl ⟨by show H a ≠ _; rw [h]; exact Option.some_ne_none _, .inr ⟨_, h⟩⟩
    · exact .inr h
  have so : SO K (fun b => H b ≠ none) H ([V.ref a].map some) ([O.fl ns].map some) (fun _ => []) := by
    refine ⟨Nat.le_refl _, fun i o e => ?_, fun _ => List.nodup_nil, fun _ _ _ m => absurd m List.not_mem_nil, fun _ _ m => absurd m List.not_mem_nil, fun _ _ m => absurd m List.not_mem_nil, fun _ z => z⟩
    match i with
    | 0 => cases e; exact ⟨_, rfl, .fl cf⟩
    | i + 1 => simp at e
  have L : LSp K B sp [.ref a] H (fun v H' => v = .bl true ∧ True) (fun _ _ _ => False) := by
    refine ⟨_, [.fl ns], _, _, _, so, rfl, fun _ _ => rfl, hsp, fun r v Z' H' os' w' f e O _ => ?_, fun C fs d Z' H' os' w' e => e.elim⟩
    subst e
    exact ⟨PDt.bl_i (O.rr.p1.1).t, trivial⟩
  refine codeAny_mono ((F _ kb (nsb ns1)).run callerA [] s H ⟨[.ref a], []⟩ [.ref a] [.ref a] _ _ rfl hr e0 (hb s (.ref a)) (.cons rfl .nil) L) ?_
  rintro (er | fl) s' q
  · obtain ⟨_, _, _, _, _, _, _, _, _, _, _, _, no⟩ := q
    exact no.elim
  · cases fl with
    | ret u =>
      obtain ⟨v, H', os, bare, un, ok', rv, q, _⟩ := q
      subst q
      cases (show u = Value.bool true from rv)
      refine ⟨rfl, OldK.of_keep fun b o e => ?_, os, bare⟩
      by_cases h : H b = none
      · exact un.keep b o e h (fun m => absurd m List.not_mem_nil) (by simp)
      · have hba := S.on b h
        subst hba
        rcases S.sq with h1 | ⟨h1, _⟩
        · have h2 := un.frzs b _ _ h1
          obtain ⟨f1, _⟩ := S.ok b _ h1
          obtain ⟨f2, _⟩ := ok' b _ h2
          exact f2.trans (f1.symm.trans e)
        · exact absurd (h1 b) h
    | next => exact q.elim
    | brk => exact q.elim
    | cont => exact q.elim
end
theorem walkG {l : PySem.W.OpenLaw} {n k : Nat} {q : Program} {loose : List Str} {XP : (Str → Option Value) → Heap → Prop} {YP : World → Heap → Prop} {d : DefRec} {K : Params → PySem.W.Frag} {B : List Nat} {sp : ASp} {x : Str}
    (hn : l.most = some n) (hn2 : n ≤ sizeLine) (hdf : d.params.defaults = []) (hr : Room k callerA) (hY : ∀ (w : World) (h : Heap), YP w h → (K w.params).In h)
    (F : ∀ (w : World) (mg : Str → Option Value) (fa : Addr) (h : Heap), (K w.params).In h → h.Ns mainGlobals mg → mg d.name = some (.ref fa) →
      ∃ fd : FuncData, (∀ (s : Shared) (u : Value), BindsTo s fd ⟨[u], []⟩ [(x, u)]) ∧ ∀ base : Heap, (K w.params).In base → base.Ns mainGlobals mg → FnV l.prog w (K w.params) mg base k fa fd [x] B sp)
    (hsp : ∀ ns : List Int, ns.length ≤ n → sp [.fl ns] (fun r _ => r = .p (.bool true)) fun _ _ _ => False) :
    PySem.W.WalkO q loose XP YP l.row.toRowW d [] (fun f vs => PySem.call f vs) := by
  refine Att.attach_call hn hdf fun w s₀ s₁ mg mb fa o pm cd doc a vs ns G Y ho hd hcd hmg hobj hi hlen hg => ?_
  obtain ⟨fd, hb, hF⟩ := F w mg fa _ (hY w _ Y) G.T.g hmg
  obtain ⟨H, S⟩ := start_ex (P := l.prog) (w := w) (hY w _ Y) hobj hi (Nat.le_trans hlen hn2)
  exact go_law (hY w _ Y) G.T.g G.T.b G.T.builtins G.T.nolimit hg hobj S hr hF hb (hsp ns hlen)
end VL

namespace VL
open PySem PySem.Spec PyProof.Rows L2

/-! ### 27. Names of the module -/
def GlOk (K : PySem.W.Frag) (mg : Str → Option Value) (x : Str) (d : D) : Prop := ∃ v u, mg x = some u ∧ RelV v u ∧ ∀ Z H, PD K Z H v d
section
variable {X : Cx} {W : WX} {x : Str} {d : D} {pos : Pos} {K : PySem.W.Frag} {mg : Str → Option Value} {k : Nat} {A : Around}
theorem je_gl (h : GlOk X.K X.mg x d) (hg : Gl X x) (hdb : (x == ("__debug__" : Str)) = false := by decide) : JE X W [] (.Name x pos) (rC d) := by
  obtain ⟨v, u, hm, r, hd⟩ := h
  exact je_glob hg hm r hd hdb
theorem gl_int {i : Int} {t : Tok} (h : mg x = some (.int i t)) : GlOk K mg x (.int i) := ⟨.int i, _, h, ⟨_, rfl⟩, fun _ _ => .int i⟩
theorem gl_str {y : Str} {t : Tok} (h : mg x = some (.str y t)) : GlOk K mg x (.str y) := ⟨.str y, _, h, ⟨_, rfl⟩, fun _ _ => .str y⟩
/-- a tuple of the module -/
theorem gl_tup {a : Addr} {o : Obj} {its : Array Value} {n : Nat} {vs : List V} {ds : List D} (h : mg x = some (.ref a)) (hk : K.lookup a = some o) (hc : o.cls = .type "tuple") (hd : o.data = .seq its n) (hz : its.size ≤ sizeLine) (rv : Vals vs its.toList)
    (pd : ∀ Z H, PDs K Z H vs ds) : GlOk K mg x (.tuple ds) := ⟨.ref a, _, h, rfl, fun Z H => .tup (.inr fun H' => .inr ⟨o, its, n, hk, hc, hd, hz, rv⟩) (pd Z H)⟩
theorem u65 (r : Room k A) : A.units + 65 < cLine := by have := r.un; omega
theorem pw_of {E₁ : Value → Shared → Prop} (h : PassesOwn (model X.prog X.w) X.A X.env X.xe) : PassesOwn (model X.prog X.w) X.A X.env X.xe := h
def aNeg : Aop
  | [.int i], k => k (.p (.int (-i)))
  | _, _ => False
theorem ok_neg : POk K (on (rU fun i => .int (-i))) aNeg := by
  intro Z H vs ds k Q zl h2 h ret
  unfold aNeg at h
  split at h
  · obtain ⟨x, rfl, h1⟩ := all2_1 h2
    rw [h1.int_i]
    exact ⟨_, rfl, _, rfl, ret _ _ Z H [] h (Ext.refl zl) (.p (.int _))⟩
  · exact h.elim
end

/-! ### 28. Walks over lists -/
/-- one turn of a comprehension -/
def lcT (vs : List Nat) (b : Bd) (tt : AT) (te : AE) (d : D) (acc : List D) (g : Gm) (K : List D → Gm → Prop) : Prop :=
  b d g fun g1 => tt g1 (fun k g2 => if k = true then te g2 (fun r g3 => match take1 r with
    | some d' => acc.length < sizeLine ∧ K (acc ++ [d']) (wipeG g3 vs)
    | none => False) noE else K acc (wipeG g2 vs)) noE
theorem lcW_cons {vs : List Nat} {b : Bd} {tt : AT} {te : AE} {Q : List D → Gm → Prop} {d : D} {ds acc : List D} {g : Gm} : lcW vs b tt te Q (d :: ds) acc g = lcT vs b tt te d acc g (lcW vs b tt te Q ds) := rfl
/-- a comprehension by what stands between its turns -/
theorem lcW_go {vs : List Nat} {b : Bd} {tt : AT} {te : AE} {Q : List D → Gm → Prop} (I : List D → List D → Gm → Prop) (st : ∀ d ds acc g K, I (d :: ds) acc g → (∀ acc' g', I ds acc' g' → K acc' g') → lcT vs b tt te d acc g K) (fin : ∀ acc g, I [] acc g → Q acc g) :
    ∀ ds acc g, I ds acc g → lcW vs b tt te Q ds acc g
  | [], acc, g, h => fin acc g h
  | d :: ds, acc, g, h => st d ds acc g _ h fun acc' g' h' => lcW_go I st fin ds acc' g' h'
/-- each thing's own, nothing else is changed -/
theorem lcW_map {vs : List Nat} {b : Bd} {tt : AT} {te : AE} {Q : List D → Gm → Prop} {g : Gm} (f : D → D) {ds : List D} (hl : ds.length ≤ sizeLine) (st : ∀ d ∈ ds, ∀ acc (K : List D → Gm → Prop), (acc.length < sizeLine) → K (acc ++ [f d]) g → lcT vs b tt te d acc g K) (fin : Q (ds.map f) g) :
    lcW vs b tt te Q ds [] g := by
  refine lcW_go (fun ds' acc g' => g' = g ∧ acc ++ ds'.map f = ds.map f ∧ acc.length + ds'.length = ds.length ∧ ∀ d ∈ ds', d ∈ ds) ?_ ?_ ds [] g ⟨rfl, rfl, by simp, fun _ m => m⟩
  · rintro d ds' acc g' K ⟨rfl, e, el, hm⟩ hk
    simp only [List.length_cons] at el
    refine st d (hm d (by simp)) acc K (by omega) (hk _ _ ⟨rfl, by rw [← e]; simp, by simp; omega, fun d m => hm d (by simp [m])⟩)
  · rintro acc g' ⟨rfl, e, _⟩
    have e : acc = ds.map f := by simpa using e
    rw [e]
    exact fin
/-- for, by what stands between its turns -/
theorem forW_go {b : Bd} {tb : AS} {N : AN} (I : List D → Gm → Prop) (st : ∀ d ds g (K : Gm → Prop), I (d :: ds) g → (∀ g', I ds g' → K g') → b d g fun g1 => tb (N.loop K) g1) (fin : ∀ g, I [] g → N.nx g) : ∀ ds g, I ds g → forW b tb N ds g
  | [], g, h => fin g h
  | d :: ds, g, h => st d ds g _ h fun g' h' => forW_go I st fin ds g' h'
theorem iteB {b : Bool} {p q : Prop} (h1 : b = true → p) (h2 : b = false → q) : if b = true then p else q := by
  cases b with
  | true => exact h1 rfl
  | false => exact h2 rfl
end VL
namespace VL
open PySem PySem.Spec PyProof.Rows L2
/-! ### 29. A name that is handed on is looked at when all else is known -/
def aLate (i : Nat) (t2 : AA) : AA := fun g Q E => match g[i]? with
  | some (some _) => t2 g (fun rs g1 => match g1[i]? with
    | some (some o) => Q (vwO i o :: rs) g1
    | _ => False) E
  | _ => False
section
variable {X : Cx} {W : WX} {T2 : List Nat} {es : List Expr} {t2 : AA} {pos : Pos}
theorem ja_late (i : Nat) {x : Str} (h2 : JA X W T2 es t2) (hN : X.N[i]? = some x := by rfl) (hv : Vis X.env.scope x := by first | exact Or.inl rfl | exact Or.inr (Or.inl rfl) | exact Or.inr (Or.inr rfl)) (hd : (x == ("__debug__" : Str)) = false := by decide)
    (hcd : (x == ("__classdict__" : Str)) = false := by decide) (hs : starEach (.Name x pos :: es) X.env = (false, eval (.Name x pos) X.env) :: starEach es X.env := by rfl) : JA X W T2 (.Name x pos :: es) (aLate i t2) := by
  refine ⟨PAi (pa_cons (pe_var hN hv hd hcd) h2.pa (hs := hs)) fun σ H Q ⟨Z, g, w, q, E, S, h, ok, ex⟩ => ?_⟩
  unfold aLate at h
  split at h
  · rename_i o0 e
    obtain ⟨v, e1, ro⟩ := S.rep i _ e
    refine ⟨v, e1, Z, g, w, _, E, S, h, fun rs vs Z1 H1 g1 w1 f1 q1 O1 => ?_, ex⟩
    split at q1
    · rename_i o e2
      obtain ⟨v2, e3, r2⟩ := O1.so.rep i o e2
      rw [e1] at e3
      cases e3
      refine ok _ _ Z1 H1 g1 w1 f1 q1 ⟨O1.so, O1.ps, ?_, O1.nd, O1.dz, O1.dw, O1.fal, O1.sr⟩
      cases o with
      | p d => exact .p r2.p_inv.1 O1.rr
      | _ => exact .sl e1 e2 r2 O1.rr
    · exact q1.elim
  · exact h.elim
end
end VL

namespace VL
open PySem PySem.Spec PyProof.Rows L2

/-! ### 30. x, y = a, b -/
section
variable {K : PySem.W.Frag} {W : WX} {B T T1 T2 : List Nat} {Z Z1 Z2 : ZS} {H H1 H2 : Hp} {g g1 g2 : Gm} {w w1 w2 : Ow} {σ σ1 σ2 : L2.St} {E : EX} {rs : List R} {vs : List V} {f : List Addr} {r r1 r2 : R} {v v1 v2 : V} {o o1 o2 : O} {i j : Nat}
theorem RRs.own2 (h : RRs K Z H σ g w [r1, r2] [v1, v2] f) (e1 : own1 r1 = some o1) (e2 : own1 r2 = some o2) : ∃ f1 f2, f = f1 ++ f2 ∧ RO K Z H o1 v1 f1 ∧ RO K Z H o2 v2 f2 := by
  cases h with
  | p h q => cases e1; exact ⟨[], f, rfl, .p h, q.own e2⟩
  | sl _ _ _ _ => cases e1
  | vw _ _ => cases e1
  | ow h q => cases e1; exact ⟨_, _, rfl, h, q.own e2⟩
/-- an owned or plain thing, whatever the names hold -/
theorem RO.rr (h : RO K Z H o v f) (e : own1 r = some o) : RRs K Z H σ g w [r] [v] f := by
  cases r with
  | p d => cases e; obtain ⟨h1, h2⟩ := h.p_inv; subst h2; exact .p h1 .nil
  | ow o => cases e; simpa using RRs.ow (σ := σ) (g := g) (w := w) h .nil
  | sl _ _ => cases e
  | vw _ _ _ => cases e
theorem Out.store2 (O : Out K T Z H g w σ Z1 H1 g1 w1 [r1, r2] [v1, v2] f) (e1 : own1 r1 = some o1) (e2 : own1 r2 = some o2) (hi : B.contains i = false) (hj : B.contains j = false) :
    ∃ w', Fin K B (T ++ [i] ++ [j]) Z H g w σ Z1 H1 ((g1.set i (some o1)).set j (some o2)) w' ((σ.set i (some v1)).set j (some v2)) := by
  obtain ⟨f1, f2, rfl, ro1, ro2⟩ := O.rr.own2 e1 e2
  have nd := List.nodup_append.mp O.nd
  have O1 : Out K T Z H g w σ Z1 H1 g1 w1 [r1] [v1] f1 := ⟨O.so, O.ps, ro1.rr e1, nd.1, fun a m => O.dz a (by simp [m]), fun a m => O.dw a (by simp [m]), fun a m => O.fal a (by simp [m]), fun a m => O.sr a (by simp [m])⟩
  have F1 := O1.store (B := B) e1 hi
  have O2 : Out K (T ++ [i]) Z H g w (σ.set i (some v1)) Z1 H1 (g1.set i (some o1)) (fun k => if k = i then f1 else w1 k) [r2] [v2] f2 := by
    refine ⟨F1.so, F1.ps, ro2.rr e2, nd.2.1, fun a m => O.dz a (by simp [m]), fun a m k mk => ?_, fun a m => O.fal a (by simp [m]), fun a m => (O.sr a (by simp [m])).imp id fun ⟨k, hk, mm⟩ => ⟨k, app_l k hk, mm⟩⟩
    have mk : a ∈ if k = i then f1 else w1 k := mk
    split at mk
    · exact nd.2.2 a mk a m rfl
    · exact O.dw a (by simp [m]) k mk
  have F2 := O2.store (B := B) e2 hj
  exact ⟨_, F2.so, F2.ps, fun k hk => (F2.sb k hk).trans (F1.sb k hk), F2.ln.trans F1.ln⟩
end
def sPar (i j : Nat) (ta : AA) : AS := fun N g => ta g (fun rs g1 => match rs with
  | [r1, r2] => match own1 r1, own1 r2 with
    | some o1, some o2 => N.nx ((g1.set i (some o1)).set j (some o2))
    | _, _ => False
  | _ => False) N.ex
section
variable {X : Cx} {W : WX} {B T : List Nat} {a b : Expr} {ta : AA} {pos px py pt pt2 : Pos} {kt k2 : Nat} {x y : Str} {i j : Nat}
theorem js_par (hB : B.contains i = false) (hB2 : B.contains j = false) (hc : X.calm = true) (hN : X.N.Nodup) (hi : X.N[i]? = some x) (hj : X.N[j]? = some y) (hij : i ≠ j) (hx : X.env.scope.names.lookup x = some .local) (hy : X.env.scope.names.lookup y = some .local) (ha : JA X W T [a, b] ta)
    (hw : swappedStores [.Tuple [.Name x px, .Name y py] kt pt] (.Tuple [a, b] k2 pt2) X.env = pure (some [x, y])) : JS X W B (T ++ [i] ++ [j]) (.Assign [.Tuple [.Name x px, .Name y py] kt pt] (.Tuple [a, b] k2 pt2) pos) (sPar i j ta) := by
  refine ⟨PSi (ps_par hc hN hi hj hij hx hy ha.pa hw) fun D σ H ⟨Z, g, w, N, S, h, ok, rt, ex⟩ => ⟨Z, g, w, _, N.ex, S, h, fun rs vs Z1 H1 g1 w1 f1 q1 O1 => ?_, ?_⟩⟩
  · split at q1
    · rename_i r1 r2
      split at q1
      · rename_i o1 o2 e1 e2
        obtain ⟨v1, v2, rfl⟩ : ∃ v1 v2, vs = [v1, v2] := by
          have := O1.rr
          cases this <;> rename_i q <;> cases q <;> rename_i q <;> cases q <;> exact ⟨_, _, rfl⟩
        obtain ⟨w', F⟩ := O1.store2 (B := B) e1 e2 hB hB2
        exact ⟨v1, v2, rfl, (ok _ _ _ _ _ F).1 q1⟩
      · exact q1.elim
    · exact q1.elim
  · exact ex.e fun k hk => by simp [hk]
end
end VL

namespace VL
open PySem PySem.Spec PyProof.Rows L2

/-! ### 31. x += e for whole numbers -/
def sAug (i : Nat) (f : Int → Int → Int) (te : AE) : AS := fun N g => match g[i]? with
  | some (some (.p (.int a))) => te g (fun r g1 => match r with
    | .p (.int b) => N.nx (g1.set i (some (.p (.int (f a b)))))
    | _ => False) N.ex
  | _ => False
section
variable {X : Cx} {W : WX} {B T : List Nat} {e : Expr} {te : AE} {pos pos' : Pos} {x : Str} {i : Nat} {f : Int → Int → Int} {op : Operator}
theorem js_aug (hB : B.contains i = false) (hN : X.N.Nodup) (hi : X.N[i]? = some x) (hx : Loc X.env.scope x) (ho : PIp X op (ipI f)) (he : JE X W T e te)
    (hf : X.fn x = true ∨ X.env.scope.names.lookup x = some .local := by first | exact .inl rfl | exact .inr rfl | assumption) : JS X W B (T ++ [i]) (.AugAssign (.Name x pos') op e pos) (sAug i f te) := by
  refine ⟨PSi (ps_aug hN hi hx he.pe ho hf) fun D σ H ⟨Z, g, w, N, S, h, ok, rt, ex⟩ => ?_⟩
  unfold sAug at h
  split at h
  · rename_i a eg
    obtain ⟨v, e1, ro⟩ := S.rep i _ eg
    have ev := PDt.int_i (ro.p_inv.1).t
    subst ev
    refine ⟨_, e1, Z, g, w, _, N.ex, S, h, fun r v Z1 H1 g1 w1 f1 q1 O1 => ?_, ex.e app_l⟩
    split at q1
    · rename_i b
      have eb := PDt.int_i (O1.rr.p1.1).t
      subst eb
      refine ⟨a, b, rfl, rfl, ?_⟩
      have O2 := O1.op (Ext.refl O1.so.zal) (RR1.p (d := .int (f a b)) (PD.int _))
      exact (ok _ _ _ _ _ (O2.store (B := B) rfl hB)).1 q1
    · exact q1.elim
  · exact h.elim
end
end VL

namespace VL
open PySem PySem.Spec PyProof.Rows L2

/-! ### 32. repr of plain data, text times number -/
def okS (d : D) : Bool := nd d && d.showable && !d.hasDict && decide (d.depth ≤ 64)
def rRepr (K : PySem.W.Frag) : List V → Hp → VK → Prop := fun xs H Q => ∃ a d, xs = [.ref a] ∧ Dp K H (.ref a) d ∧ d.showable = true ∧ d.hasDict = false ∧ d.depth ≤ 64 ∧ d.shown.length ≤ sizeLine ∧ Q (.str d.shown) H
section
variable {X : Cx} {k : Nat}
theorem call_reprD (hg : X.A.guards = some []) (hr : Room k X.A) : CallR X (.builtin "repr") (rRepr X.K) := by
  intro pins s σ H xs us Q I r h
  obtain ⟨a, d, rfl, hd, h1, h2, h3, h4, q⟩ := h
  obtain ⟨u, rfl, ru⟩ := vals1 r
  cases (show u = Value.ref a from ru)
  obtain ⟨as, rd⟩ := Dp.reads I d (.ref a) (.ref a) hd rfl
  refine repr_of_reads' rd h1 (fun z => by rw [h2] at z; cases z) hg (by have := hr.un; omega) (fun b o e => e) (fun h' t tk hk => ⟨.str d.shown, H, I.kept hk, ⟨_, rfl⟩, q⟩) h4
def aRepr : Aop
  | [.int i], k => i.natAbs.log2 < 1920 ∧ k (.p (.str (toString i)))
  | [.list ds], k => okS (.list ds) = true ∧ (PyData.list ds).shown.length ≤ sizeLine ∧ k (.p (.str (PyData.list ds).shown))
  | [.tuple ds], k => okS (.tuple ds) = true ∧ (PyData.tuple ds).shown.length ≤ sizeLine ∧ k (.p (.str (PyData.tuple ds).shown))
  | _, _ => False
theorem PDu.dp {K : PySem.W.Frag} {Z : ZS} {H : Hp} {v : V} {d : D} (h : PDu K Z H v d) (e : nd d = true) : Dp K H v d := by
  cases d with
  | list ds =>
    obtain ⟨a, xs, rfl, h, r⟩ := h
    exact .lst h (r.dp (by simpa [nd] using e))
  | _ => exact PDt.dp h e
theorem okS_i {d : D} (h : okS d = true) : nd d = true ∧ d.showable = true ∧ d.hasDict = false ∧ d.depth ≤ 64 := by
  simp only [okS, Bool.and_eq_true, Bool.not_eq_true', decide_eq_true_eq] at h
  exact ⟨h.1.1.1, h.1.1.2, h.1.2, h.2⟩
theorem ok_repr {K : PySem.W.Frag} : POu K (fun xs H Q => (∃ i, xs = [.int i] ∧ i.natAbs.log2 < 1920 ∧ Q (.str (toString i)) H) ∨ rRepr K xs H Q) aRepr := by
  intro Z H vs ds k Q zl h2 h ret
  unfold aRepr at h
  split at h
  · obtain ⟨x, rfl, h1⟩ := all2_1 h2
    rw [h1.int_i]
    exact .inl ⟨_, rfl, h.1, ret _ _ Z H [] h.2 (Ext.refl zl) (.p (.str _))⟩
  · obtain ⟨x, rfl, h1⟩ := all2_1 h2
    obtain ⟨z1, z2, z3, z4⟩ := okS_i h.1
    have hd := h1.dp z1
    obtain ⟨a, xs, rfl, _, _⟩ := h1.sq
    exact .inr ⟨_, _, rfl, hd, z2, z3, z4, h.2.1, ret _ _ Z H [] h.2.2 (Ext.refl zl) (.p (.str _))⟩
  · obtain ⟨x, rfl, h1⟩ := all2_1 h2
    obtain ⟨z1, z2, z3, z4⟩ := okS_i h.1
    have hd := h1.dp z1
    obtain ⟨a, xs, rfl, _, _⟩ := h1.sqt
    exact .inr ⟨_, _, rfl, hd, z2, z3, z4, h.2.1, ret _ _ Z H [] h.2.2 (Ext.refl zl) (.p (.str _))⟩
  · exact h.elim
theorem call_reprX (hg : X.A.guards = some []) (hr : Room k X.A) : CallR X (.builtin "repr") (fun xs H Q => (∃ i, xs = [.int i] ∧ i.natAbs.log2 < 1920 ∧ Q (.str (toString i)) H) ∨ rRepr X.K xs H Q) := CallR_or SkE.call_repr_int (call_reprD hg hr)
/-- a text a number of times -/
def rMulS : R2 := fun x y H Q => ∃ (a : Str) (n : Int), x = .str a ∧ y = .int n ∧ MulOk a n ∧ Q (.str (Txt.mul a n)) H
theorem op_mulS : OpR X (binaryOp .Mult) rMulS := by
  intro pins s σ H x y v u Q I rx ry h
  obtain ⟨a, n, rfl, rfl, hm, q⟩ := h
  obtain ⟨t, rfl⟩ := _root_.id rx
  obtain ⟨t2, rfl⟩ := _root_.id ry
  exact SB.mul hm fun t' tk => ⟨.str _, H, I.tok tk, ⟨_, rfl⟩, q⟩
/-- * of numbers, of a text and a number -/
def aMulX : Aop
  | [.int i, .int j], k => CMul i j ∧ k (.p (.int (i * j)))
  | [.str a, .int n], k => MulOk a n ∧ k (.p (.str (Txt.mul a n)))
  | _, _ => False
def rMulX : R2 := fun x y H Q => rI CMul (fun i j => .int (i * j)) x y H Q ∨ rMulS x y H Q
theorem op_mulXX : OpR X (binaryOp .Mult) rMulX := OpR_or op_mul op_mulS
theorem ok_mulX {K : PySem.W.Frag} : POk K (tw rMulX) aMulX := by
  intro Z H vs ds k Q zl h2 h ret
  unfold aMulX at h
  split at h
  · obtain ⟨x, y, rfl, h1, h2⟩ := all2_2 h2
    rw [h1.int_i, h2.int_i]
    exact ⟨_, _, rfl, .inl ⟨_, _, rfl, rfl, h.1, ret _ _ Z H [] h.2 (Ext.refl zl) (.p (.int _))⟩⟩
  · obtain ⟨x, y, rfl, h1, h2⟩ := all2_2 h2
    rw [h1.str_i, h2.int_i]
    exact ⟨_, _, rfl, .inr ⟨_, _, rfl, rfl, h.1, ret _ _ Z H [] h.2 (Ext.refl zl) (.p (.str _))⟩⟩
  · exact h.elim
end
end VL

namespace VL
open PySem PySem.Spec PyProof.Rows L2

/-! ### 33. max of two numbers or of a list of numbers -/
def intsOf : List D → Option (List Int)
  | [] => some []
  | .int b :: ds => (intsOf ds).map (b :: ·)
  | _ => none
theorem PDs.ints {K : PySem.W.Frag} {Z : ZS} {H : Hp} : ∀ {vs : List V} {ds : List D} {bs : List Int}, PDs K Z H vs ds → intsOf ds = some bs → vs = bs.map V.int
  | _, _, bs, .nil, e => by cases e; rfl
  | _, d :: ds, bs, .cons h t, e => by
    cases d <;> simp only [intsOf, Option.map_eq_some_iff, reduceCtorEq] at e
    obtain ⟨bs', e1, rfl⟩ := e
    rw [PDt.int_i h.t, PDs.ints t e1]
    rfl
def aMaxX : Aop
  | [.int i, .int j], k => k (.p (.int (if j > i then j else i)))
  | [.list ds], k => ∃ ns, intsOf ds = some ns ∧ 0 < ns.length ∧ ∀ m, m ∈ ns → (∀ y, y ∈ ns → y ≤ m) → k (.p (.int m))
  | _, _ => False
def rMaxX (K : PySem.W.Frag) : List V → Hp → VK → Prop := fun xs H Q => (∃ i j, xs = [.int i, .int j] ∧ Q (.int (if j > i then j else i)) H) ∨ rMax K xs H Q
theorem call_maxX {X : Cx} (hc : X.calm = true) : CallR X (.builtin "max") (rMaxX X.K) := CallR_or (call_max2 hc) (cr_max hc)
theorem ok_maxX {K : PySem.W.Frag} : POu K (rMaxX K) aMaxX := by
  intro Z H vs ds k Q zl h2 h ret
  unfold aMaxX at h
  split at h
  · obtain ⟨x, y, rfl, h1, h2⟩ := all2_2 h2
    rw [h1.int_i, h2.int_i]
    exact .inl ⟨_, _, rfl, ret _ _ Z H [] h (Ext.refl zl) (.p (.int _))⟩
  · obtain ⟨x, rfl, h1⟩ := all2_1 h2
    obtain ⟨a, xs, rfl, hx, rx⟩ := h1.sq
    obtain ⟨ns, e, h0, hk⟩ := h
    cases rx.ints e
    exact .inr ⟨_, _, rfl, hx, h0, fun m hm hy => ret _ _ Z H [] (hk m hm hy) (Ext.refl zl) (.p (.int _))⟩
  · exact h.elim
end VL

namespace VL
open PySem PySem.Spec PyProof.Rows L2

/-! ### 34. Facts for the tactic text that runs a reading -/
theorem small {n : Nat} (h : n ≤ 100000) : n ≤ sizeLine := Nat.le_trans h (by decide)
theorem at_ex {ns : List Int} {i : Int} (h0 : 0 ≤ i) (h : i < ((ns.map PyData.int).length : Int)) : ∃ v, L2.atI (ns.map PyData.int) i = some (.int v) := by
  rw [List.length_map] at h
  have e : i = ((i.toNat : Nat) : Int) := by omega
  rw [e]
  have hi : i.toNat < ns.length := by omega
  exact ⟨ns[i.toNat], atI_nat (by rw [List.getElem?_map, List.getElem?_eq_getElem hi]; rfl)⟩
theorem at_str {x : Str} {i : Int} (h0 : 0 ≤ i) (h : i < (x.length : Int)) : ∃ c, L2.atI x.cps.toList i = some c := by
  have e : i = ((i.toNat : Nat) : Int) := by omega
  rw [e]
  have hi : i.toNat < x.cps.toList.length := by
    show i.toNat < x.cps.toList.length
    have : x.length = x.cps.toList.length := by simp [Str.length]
    omega
  exact ⟨x.cps.toList[i.toNat], atI_nat (List.getElem?_eq_getElem hi)⟩
theorem at_list {xs : List D} {i : Int} (h0 : 0 ≤ i) (h : i < (xs.length : Int)) : ∃ c, c ∈ xs ∧ L2.atI xs i = some c := by
  have e : i = ((i.toNat : Nat) : Int) := by omega
  rw [e]
  have hi : i.toNat < xs.length := by omega
  exact ⟨xs[i.toNat], List.getElem_mem hi, atI_nat (List.getElem?_eq_getElem hi)⟩
theorem ix_int {K : D → Prop} {ns : List Int} {i : Int} (h0 : 0 ≤ i) (h : i < ((ns.map PyData.int).length : Int)) (k : ∀ v, K (.int v)) : ∃ d, L2.atI (ns.map PyData.int) i = some d ∧ K d := by
  obtain ⟨v, e⟩ := at_ex h0 h
  exact ⟨_, e, k v⟩
theorem ix_mod {K : D → Prop} {ns : List Int} {i : Int} (h : 0 < ((ns.map PyData.int).length : Int)) (k : ∀ v, K (.int v)) : ∃ d, L2.atI (ns.map PyData.int) (i % ((ns.map PyData.int).length : Int)) = some d ∧ K d :=
  ix_int (Int.emod_nonneg _ (by omega)) (Int.emod_lt_of_pos _ h) k
theorem ix_sgn {K : Nat → Prop} {x : Str} {i : Int} (h0 : 0 ≤ i) (h : i < (x.length : Int)) (k : ∀ c, K c) : ∃ c, L2.atI x.cps.toList i = some c ∧ K c := by
  obtain ⟨v, e⟩ := at_str h0 h
  exact ⟨_, e, k v⟩
theorem ix_lst {K : D → Prop} {xs : List D} {i : Int} (h0 : 0 ≤ i) (h : i < (xs.length : Int)) (k : ∀ d ∈ xs, K d) : ∃ c, L2.atI xs i = some c ∧ K c := by
  obtain ⟨v, m, e⟩ := at_list h0 h
  exact ⟨_, e, k v m⟩
theorem ix_2i {K : D → Prop} {a b i : Int} (h0 : 0 ≤ i) (h : i < 2) (a0 : 0 ≤ a) (a1 : a ≤ 100) (b0 : 0 ≤ b) (b1 : b ≤ 100) (k : ∀ v : Int, 0 ≤ v → v ≤ 100 → K (.int v)) : ∃ d, L2.atI [PyData.int a, PyData.int b] i = some d ∧ K d :=
  ix_lst h0 h fun d m => by
    simp only [List.mem_cons, List.not_mem_nil, or_false] at m
    rcases m with rfl | rfl
    · exact k _ a0 a1
    · exact k _ b0 b1
theorem ix_2s {K : D → Prop} {a b : Str} {i : Int} (h0 : 0 ≤ i) (h : i < 2) (a1 : a.length ≤ 1) (b1 : b.length ≤ 1) (k : ∀ s : Str, s.length ≤ 1 → K (.str s)) : ∃ d, L2.atI [PyData.str a, PyData.str b] i = some d ∧ K d :=
  ix_lst h0 h fun d m => by
    simp only [List.mem_cons, List.not_mem_nil, or_false] at m
    rcases m with rfl | rfl
    · exact k _ a1
    · exact k _ b1
theorem ix_3i {K : D → Prop} {a b c i : Int} (h0 : 0 ≤ i) (h : i < 3) (k : ∀ v : Int, K (.int v)) : ∃ d, L2.atI [PyData.int a, PyData.int b, PyData.int c] i = some d ∧ K d :=
  ix_lst h0 h fun d m => by
    simp only [List.mem_cons, List.not_mem_nil, or_false] at m
    rcases m with rfl | rfl | rfl <;> exact k _
theorem ix_5s {K : D → Prop} {a b c e f : Str} {i : Int} (h0 : 0 ≤ i) (h : i < 5) (h1 : a.length ≤ 1000) (h2 : b.length ≤ 1000) (h3 : c.length ≤ 1000) (h4 : e.length ≤ 1000) (h5 : f.length ≤ 1000) (k : ∀ s : Str, s.length ≤ 1000 → K (.str s)) :
    ∃ d, L2.atI [PyData.str a, PyData.str b, PyData.str c, PyData.str e, PyData.str f] i = some d ∧ K d :=
  ix_lst h0 h fun d m => by
    simp only [List.mem_cons, List.not_mem_nil, or_false] at m
    rcases m with rfl | rfl | rfl | rfl | rfl
    · exact k _ h1
    · exact k _ h2
    · exact k _ h3
    · exact k _ h4
    · exact k _ h5
theorem cut_le {x : Str} {lo hi : Option Int} {n : Nat} (h : x.length ≤ n) : (cutS x lo hi).length ≤ n := Nat.le_trans (cutS_length x lo hi) h
theorem app_len (x y : Str) : (x ++ y).length = x.length + y.length := by
  show (x.cps ++ y.cps).size = x.cps.size + y.cps.size
  exact Array.size_append
theorem app_le {x y : Str} (h : x.length ≤ 400) (h' : y.length ≤ 400) : (x ++ y).length ≤ 1000 := by rw [app_len]; omega
theorem up_le {x : Str} (h : x.length ≤ 200) : (Txt.upper x).length ≤ 1000 := by have := PyProof.Rows.len_upper x; omega
theorem sl_add {a b : Nat} (h : a ≤ 1000) (h' : b ≤ 1000) : a + b ≤ sizeLine := small (by omega)
theorem and_id {p q : Prop} (h : p ∧ q) : p ∧ q := h
theorem ex_id {α : Type} {p : α → Prop} (h : ∃ x, p x) : ∃ x, p x := h
theorem ite_t {p q : Prop} (h : p) : if true = true then p else q := h
theorem ite_f {p q : Prop} (h : q) : if false = true then p else q := h
theorem ones_sum : ∀ {ys : List Str}, (∀ y ∈ ys, y.length = 1) → (ys.map (·.length)).sum = ys.length
  | [], _ => rfl
  | y :: ys, h => by
    rw [List.map_cons, List.sum_cons, ones_sum fun z m => h z (List.mem_cons_of_mem _ m), h y (List.mem_cons_self ..), List.length_cons]
    omega
theorem ix_last {K : Nat → Prop} {x : Str} (h : 1 ≤ x.length) (k : ∀ c, K c) : ∃ c, L2.atI x.cps.toList (-1) = some c ∧ K c := by
  have hl : x.cps.toList.length = x.length := by simp [Str.length]
  have e : L2.atI x.cps.toList (-1) = x.cps.toList[x.length - 1]? := by
    unfold L2.atI L2.ixN
    rw [hl, if_neg (by omega), if_pos (by omega)]
    show x.cps.toList[(-1 + (x.length : Int)).toNat]? = _
    rw [show (-1 + (x.length : Int)).toNat = x.length - 1 by omega]
  rw [e, List.getElem?_eq_getElem (by omega)]
  exact ⟨_, rfl, k _⟩
theorem b01_lo {b : Bool} : (0 : Int) ≤ (if b = true then 1 else 0) := by cases b <;> decide
theorem b01_hi {b : Bool} : (if b = true then 1 else 0 : Int) < 2 := by cases b <;> decide
theorem one_le {c n : Nat} : (⟨#[c]⟩ : Str).length ≤ n + 1 := Nat.succ_le_succ (Nat.zero_le n)
theorem up_le4 {x : Str} (h : x.length ≤ 100) : (Txt.upper x).length ≤ 400 := by have := PyProof.Rows.len_upper x; omega
theorem one_long (c : Nat) : (⟨#[c]⟩ : Str).length = 1 := rfl
theorem txts_of {ys : List Str} : strsOf (ys.map PyData.str) = some ys := by
  induction ys with
  | nil => rfl
  | cons y ys ih => show (strsOf (ys.map PyData.str)).map (y :: ·) = _; rw [ih]; rfl
end VL

namespace VL
open PySem PySem.Spec PyProof.Rows L2

/-! ### 35. Names of small letters that the laws make -/
def lett : Str := "abcdefghijklmnopqrstuvwxyz"
def keptL : List Str := ["set", "tell", "if", "else", "while", "times", "end", "in"]
def qS : Str := "q"
def isLow (s : Str) : Prop := ∀ c ∈ s.cps.toList, 97 ≤ c ∧ c ≤ 122
structure Nm (s : Str) : Prop where
  pos : 1 ≤ s.length
  le : s.length ≤ 6
  low : isLow s
  kept : s ∉ keptL
  six : s.length ≤ 5 ∨ ∃ u, s = u ++ qS
def nm0 (st : Str) (f a t k : Int) : Str := cutS st none (some a) ++ ⟨#[97 + ((f + 7 * k) % 26).toNat]⟩ ++ cutS st (some a) (some ((t + k) % 5))
def inKept (n : Str) : Bool := (keptL.map PyData.str).any fun z => PyData.eqv z (.str n)
def nm1 (n : Str) : Str := n ++ Txt.mul qS (if inKept n = true then 1 else 0)
theorem str_ext {x y : Str} (h : x.cps.toList = y.cps.toList) : x = y := by
  obtain ⟨⟨x⟩⟩ := x
  obtain ⟨⟨y⟩⟩ := y
  cases h
  rfl
theorem app_list (x y : Str) : (x ++ y).cps.toList = x.cps.toList ++ y.cps.toList := by
  show (x.cps ++ y.cps).toList = _
  simp
theorem len_list (x : Str) : x.length = x.cps.toList.length := by simp [Str.length]
theorem cut_list (x : Str) (lo hi : Option Int) : (cutS x lo hi).cps.toList = cutD x.cps.toList lo hi := by
  unfold cutS cutD
  rw [len_list]
theorem eqv_str (x y : Str) : PyData.eqv (.str x) (.str y) = decide (x = y) := by
  simp [PyData.eqv]
  try rfl
theorem inKept_iff {n : Str} : inKept n = true ↔ n ∈ keptL := by
  unfold inKept
  rw [List.any_map, List.any_eq_true]
  constructor
  · rintro ⟨z, m, e⟩
    have e : PyData.eqv (.str z) (.str n) = true := e
    rw [eqv_str, decide_eq_true_eq] at e
    rw [← e]; exact m
  · intro m
    refine ⟨n, m, ?_⟩
    show PyData.eqv (.str n) (.str n) = true
    rw [eqv_str, decide_eq_true_eq]
theorem nm1_kept {n : Str} (h : n ∈ keptL) : nm1 n = n ++ qS := by
  unfold nm1
  rw [if_pos (inKept_iff.mpr h)]
  rfl
theorem nm1_not {n : Str} (h : n ∉ keptL) : nm1 n = n := by
  unfold nm1
  rw [if_neg (fun z => h (inKept_iff.mp z))]
  refine str_ext ?_
  rw [app_list]
  simp [Txt.mul, Str.empty]
theorem lett_at : ∀ i : Nat, i < 26 → lett.cps.toList[i]? = some (97 + i) := by decide +kernel
theorem lett_len : lett.length = 26 := by decide +kernel
theorem ix_lett {K : Nat → Prop} {i : Int} (h0 : 0 ≤ i) (h : i < 26) (k : K (97 + i.toNat)) : ∃ c, L2.atI lett.cps.toList i = some c ∧ K c := by
  refine ⟨_, ?_, k⟩
  have e : i = ((i.toNat : Nat) : Int) := by omega
  rw [e, Int.toNat_natCast]
  exact atI_nat (lett_at _ (by omega))
theorem kept_q : ∀ n ∈ keptL, n.length ≤ 5 ∧ isLow n ∧ n ++ qS ∉ keptL := by
  intro n m
  unfold keptL at m
  simp only [List.mem_cons, List.not_mem_nil, or_false] at m
  rcases m with rfl | rfl | rfl | rfl | rfl | rfl | rfl | rfl <;> refine ⟨by decide +kernel, ?_, by decide +kernel⟩ <;> (unfold isLow; decide +kernel)
theorem kept_last {n : Str} (h : n ++ qS ∈ keptL) : False := by
  have e : (n ++ qS).cps.toList.getLast? = some 113 := by
    rw [app_list]
    have : qS.cps.toList = [113] := by decide +kernel
    rw [this]; simp
  have : ∀ k ∈ keptL, k.cps.toList.getLast? ≠ some 113 := by decide +kernel
  exact this _ h e
theorem low_app {x y : Str} (hx : isLow x) (hy : isLow y) : isLow (x ++ y) := by
  intro c m
  rw [app_list] at m
  rcases List.mem_append.mp m with m | m
  · exact hx c m
  · exact hy c m
theorem low_cut {x : Str} (hx : isLow x) (lo hi : Option Int) : isLow (cutS x lo hi) := by
  intro c m
  rw [cut_list] at m
  exact hx c (List.mem_of_mem_drop (List.mem_of_mem_take m))
theorem low_q : isLow qS := by unfold isLow; decide +kernel
theorem low_one {c : Nat} (h : 97 ≤ c) (h' : c ≤ 122) : isLow ⟨#[c]⟩ := by
  intro d m
  have : d = c := by simpa using m
  subst this
  exact ⟨h, h'⟩
theorem q_len : qS.length = 1 := by decide +kernel
theorem nm_q {n : Str} (h : Nm n) (hl : n.length ≤ 5) : Nm (n ++ qS) :=
  ⟨by rw [app_len]; have := h.pos; omega, by rw [app_len, q_len]; omega, low_app h.low low_q, kept_last, .inr ⟨n, rfl⟩⟩
section
variable {st : Str} {f a t k : Int}
theorem cut_none_len (h0 : 0 ≤ a) (h1 : a ≤ st.length) : (cutS st none (some a)).cps.toList.length = a.toNat := by
  rw [cut_list]
  unfold cutD
  rw [List.length_take, List.length_drop, ← len_list]
  have e : HT.sIx st.length st.length (some a) = a.toNat := by
    show (if a < 0 then _ else _) = _
    rw [if_neg (by omega)]
    omega
  rw [e]
  show min (a.toNat - 0) (st.length - 0) = _
  omega
theorem nm0_low (h : isLow st) : isLow (nm0 st f a t k) := by
  unfold nm0
  refine low_app (low_app (low_cut h _ _) (low_one ?_ ?_)) (low_cut h _ _)
  · omega
  · omega
theorem nm0_len (h0 : 0 ≤ a) (h1 : a ≤ st.length) (h2 : st.length ≤ 4) : 1 ≤ (nm0 st f a t k).length ∧ (nm0 st f a t k).length ≤ 5 := by
  unfold nm0
  rw [app_len, app_len]
  have e1 : (cutS st none (some a)).length = a.toNat := by rw [len_list]; exact cut_none_len h0 h1
  have e2 : (cutS st (some a) (some ((t + k) % 5))).length ≤ st.length - a.toNat := by
    rw [len_list, cut_list]
    unfold cutD
    rw [List.length_take, List.length_drop, ← len_list]
    have e : HT.sIx st.length 0 (some a) = a.toNat := by
      show (if a < 0 then _ else _) = _
      rw [if_neg (by omega)]
      omega
    rw [e]
    omega
  have e3 : ∀ c : Nat, (⟨#[c]⟩ : Str).length = 1 := fun _ => rfl
  rw [e1, e3]
  omega
theorem nm0_at (h0 : 0 ≤ a) (h1 : a ≤ st.length) (y : Str) : (nm0 st f a t k ++ y).cps.toList[a.toNat]? = some (97 + ((f + 7 * k) % 26).toNat) := by
  unfold nm0
  rw [app_list, app_list, app_list, List.append_assoc, List.append_assoc]
  rw [List.getElem?_append_right (by rw [cut_none_len h0 h1]; exact Nat.le_refl _), cut_none_len h0 h1]
  simp
theorem nm1_nm (h : isLow st) (h0 : 0 ≤ a) (h1 : a ≤ st.length) (h2 : st.length ≤ 4) : Nm (nm1 (nm0 st f a t k)) := by
  have l := nm0_len (f := f) (t := t) (k := k) h0 h1 h2
  by_cases c : nm0 st f a t k ∈ keptL
  · rw [nm1_kept c]
    exact ⟨by rw [app_len]; omega, by rw [app_len, q_len]; omega, low_app (nm0_low h) low_q, kept_last, .inr ⟨_, rfl⟩⟩
  · rw [nm1_not c]
    exact ⟨l.1, by omega, nm0_low h, c, .inl l.2⟩
theorem nm1_at (h0 : 0 ≤ a) (h1 : a ≤ st.length) (y : Str) : (nm1 (nm0 st f a t k) ++ y).cps.toList[a.toNat]? = some (97 + ((f + 7 * k) % 26).toNat) := by
  unfold nm1
  have e : ∀ u v w : Str, u ++ v ++ w = u ++ (v ++ w) := fun u v w => str_ext (by simp only [app_list, List.append_assoc])
  rw [e]
  exact nm0_at h0 h1 _
theorem app_empty (x : Str) : x ++ Str.empty = x := str_ext (by rw [app_list]; simp [Str.empty])
theorem nm1_ne (h0 : 0 ≤ a) (h1 : a ≤ st.length) {i j : Int} (hi : 0 ≤ i) (hij : i < j) (hj : j < 26) (x y : Str) : nm1 (nm0 st f a t i) ++ x ≠ nm1 (nm0 st f a t j) ++ y := by
  intro e
  have e1 := nm1_at (st := st) (f := f) (t := t) (k := i) h0 h1 x
  have e2 := nm1_at (st := st) (f := f) (t := t) (k := j) h0 h1 y
  rw [e, e2] at e1
  simp only [Option.some.injEq] at e1
  omega
end
/-- unlike names -/
structure Names (ws : List Str) : Prop where
  nd : ws.Nodup
  nm : ∀ w ∈ ws, Nm w
def nmL (st : Str) (f a t : Int) (n : Nat) : List Str := (List.range n).map fun (k : Nat) => nm1 (nm0 st f a t (k : Int))
theorem nmL_len {st : Str} {f a t : Int} {n : Nat} : (nmL st f a t n).length = n := by unfold nmL; rw [List.length_map, List.length_range]
theorem nmL_succ {st : Str} {f a t : Int} {n : Nat} : nmL st f a t (n + 1) = nmL st f a t n ++ [nm1 (nm0 st f a t (n : Int))] := by
  unfold nmL
  rw [List.range_succ, List.map_append]
  rfl
section
variable {st : Str} {f a t : Int} {n : Nat}
theorem nmL_names (h : isLow st) (h0 : 0 ≤ a) (h1 : a ≤ st.length) (h2 : st.length ≤ 4) (hn : n ≤ 26) : Names (nmL st f a t n) where
  nd := by
    unfold nmL List.Nodup
    rw [List.pairwise_map]
    refine List.Pairwise.imp_of_mem ?_ List.pairwise_lt_range
    intro i j mi mj hij e
    have := List.mem_range.mp mj
    have e2 := congrArg (fun x => x ++ Str.empty) e
    exact nm1_ne h0 h1 (i := (i : Int)) (j := (j : Int)) (by omega) (by omega) (by omega) _ _ e2
  nm := by
    intro w m
    obtain ⟨k, _, rfl⟩ := List.mem_map.mp m
    exact nm1_nm h h0 h1 h2
theorem nmL_last (h : isLow st) (h0 : 0 ≤ a) (h1 : a ≤ st.length) (h2 : st.length ≤ 4) (hn : n + 2 ≤ 26) (hl : (nm1 (nm0 st f a t (n : Int))).length < 5) :
    Names ((nmL st f a t (n + 2)).set (n + 1) (nm1 (nm0 st f a t (n : Int)) ++ qS)) := by
  have N := nmL_names (f := f) (t := t) h h0 h1 h2 (show n + 1 ≤ 26 by omega)
  have e : (nmL st f a t (n + 2)).set (n + 1) (nm1 (nm0 st f a t (n : Int)) ++ qS) = nmL st f a t (n + 1) ++ [nm1 (nm0 st f a t (n : Int)) ++ qS] := by
    rw [nmL_succ, List.set_append_right _ _ (by rw [nmL_len]; exact Nat.le_refl _), nmL_len]
    simp
  rw [e]
  refine ⟨?_, ?_⟩
  · rw [List.nodup_append]
    refine ⟨N.nd, by simp, ?_⟩
    intro x mx y my e
    rw [List.mem_singleton.mp my] at e
    obtain ⟨k, mk, rfl⟩ := List.mem_map.mp mx
    have hk := List.mem_range.mp mk
    by_cases c : k = n
    · subst c
      have := congrArg Str.length e
      rw [app_len, q_len] at this
      omega
    · have e2 : nm1 (nm0 st f a t (k : Int)) ++ Str.empty = nm1 (nm0 st f a t (n : Int)) ++ qS := by rw [app_empty]; exact e
      exact nm1_ne h0 h1 (by omega) (by omega) (by omega) _ _ e2
  · intro w m
    rcases List.mem_append.mp m with m | m
    · exact N.nm w m
    · rw [List.mem_singleton.mp m]
      exact nm_q (nm1_nm h h0 h1 h2) (by omega)
end
end VL

namespace VL
open PySem PySem.Spec PyProof.Rows L2

/-! ### 36. Data that may be compared and shown -/
structure Nz (n w : Nat) (d : D) : Prop where
  nd : VL.nd d = true
  lay : d.canLay0 = true
  sho : d.showable = true
  hd : d.hasDict = false
  ish : d.intsShort 13 = true
  dp : d.depth ≤ n
  wt : d.weight ≤ w
structure NzL (n w : Nat) (ds : List D) : Prop where
  nd : VL.nds ds = true
  lay : PyData.canLayAll0 ds = true
  sho : PyData.showableAll ds = true
  hd : PyData.hasDictAll ds = false
  ish : PyData.intsShortAll 13 ds = true
  dp : PyData.depthAll ds ≤ n
  wt : PyData.weightAll ds ≤ w
section
variable {n w v m : Nat} {d : D} {ds es : List D}
theorem Nz.mono (h : Nz n w d) (h1 : n ≤ m) (h2 : w ≤ v) : Nz m v d := ⟨h.nd, h.lay, h.sho, h.hd, h.ish, Nat.le_trans h.dp h1, Nat.le_trans h.wt h2⟩
theorem NzL.mono (h : NzL n w ds) (h1 : n ≤ m) (h2 : w ≤ v) : NzL m v ds := ⟨h.nd, h.lay, h.sho, h.hd, h.ish, Nat.le_trans h.dp h1, Nat.le_trans h.wt h2⟩
theorem Nz.int {i : Int} (h : i.natAbs < 10 ^ 12) : Nz 0 40 (.int i) where
  nd := rfl
  lay := by simp [PyData.canLay0]
  sho := by
    have : i.natAbs.log2 < 1920 := by
      by_cases z : i.natAbs = 0
      · rw [z]; decide
      · exact Nat.lt_of_lt_of_le ((Nat.log2_lt z).mpr (Nat.lt_of_lt_of_le h (by decide : 10 ^ 12 ≤ 2 ^ 40))) (by decide)
    simp [PyData.showable, this]
  hd := by simp [PyData.hasDict]
  ish := by
    have e : (Str.ofString (toString i)).length ≤ 13 := by
      rw [PySem.ofString_length]
      exact int_text_length_le10 (by decide) h
    show decide ((Str.ofString (toString i)).length ≤ 13) = true
    exact decide_eq_true e
  dp := by simp [PyData.depth]
  wt := by
    simp only [PyData.weight]
    split
    · omega
    · rename_i z
      have z : i.natAbs ≠ 0 := fun e => z (by simp; omega)
      have := (Nat.log2_lt z).mpr (Nat.lt_of_lt_of_le h (by decide : 10 ^ 12 ≤ 2 ^ 40))
      omega
theorem Nz.str {x : Str} (h : PyData.strOk x = true) : Nz 0 x.length (.str x) where
  nd := rfl
  lay := by simp [PyData.canLay0, h]
  sho := by simp [PyData.showable]
  hd := by simp [PyData.hasDict]
  ish := by simp [PyData.intsShort]
  dp := by simp [PyData.depth]
  wt := by simp [PyData.weight, Str.length]
theorem Nz.non : Nz 0 0 .none := ⟨rfl, by simp [PyData.canLay0], by simp [PyData.showable], by simp [PyData.hasDict], by simp [PyData.intsShort], by simp [PyData.depth], by simp [PyData.weight]⟩
theorem Nz.bl (b : Bool) : Nz 0 0 (.bool b) := ⟨rfl, by simp [PyData.canLay0], by simp [PyData.showable], by simp [PyData.hasDict], by simp [PyData.intsShort], by simp [PyData.depth], by simp [PyData.weight]⟩
theorem NzL.nil : NzL 0 0 [] := ⟨rfl, by simp [PyData.canLayAll0], by simp [PyData.showableAll], by simp [PyData.hasDictAll], by simp [PyData.intsShortAll], by simp [PyData.depthAll], by simp [PyData.weightAll]⟩
theorem NzL.cons (h : Nz n w d) (r : NzL m v ds) : NzL (max n m) (w + 1 + v) (d :: ds) where
  nd := by simp [VL.nds, h.nd, r.nd]
  lay := by simp [PyData.canLayAll0, h.lay, r.lay]
  sho := by simp [PyData.showableAll, h.sho, r.sho]
  hd := by simp [PyData.hasDictAll, h.hd, r.hd]
  ish := by simp [PyData.intsShortAll, h.ish, r.ish]
  dp := by
    simp only [PyData.depthAll]
    have := h.dp
    have := r.dp
    omega
  wt := by
    simp only [PyData.weightAll]
    have := h.wt
    have := r.wt
    omega
theorem Nz.tup (r : NzL n w ds) : Nz (n + 1) w (.tuple ds) where
  nd := by simp [VL.nd, r.nd]
  lay := by simp [PyData.canLay0, r.lay]
  sho := by simp [PyData.showable, r.sho]
  hd := by simp [PyData.hasDict, r.hd]
  ish := by simp [PyData.intsShort, r.ish]
  dp := by simp only [PyData.depth]; have := r.dp; omega
  wt := by simp only [PyData.weight]; exact r.wt
theorem Nz.lst (r : NzL n w ds) : Nz (n + 1) w (.list ds) where
  nd := by simp [VL.nd, r.nd]
  lay := by simp [PyData.canLay0, r.lay]
  sho := by simp [PyData.showable, r.sho]
  hd := by simp [PyData.hasDict, r.hd]
  ish := by simp [PyData.intsShort, r.ish]
  dp := by simp only [PyData.depth]; have := r.dp; omega
  wt := by simp only [PyData.weight]; exact r.wt
theorem NzL.all : ∀ {ds : List D}, (∀ d ∈ ds, Nz n w d) → NzL n ((w + 1) * ds.length) ds
  | [], _ => NzL.nil.mono (Nat.zero_le _) (Nat.zero_le _)
  | d :: ds, h => by
    refine (NzL.cons (h d (List.mem_cons_self ..)) (NzL.all fun d m => h d (List.mem_cons_of_mem _ m))).mono (by omega) ?_
    rw [List.length_cons, Nat.mul_succ]
    omega
theorem NzL.app : ∀ {w : Nat} {ds es : List D}, NzL n w ds → NzL m v es → NzL (max n m) (w + v) (ds ++ es)
  | _, [], es, _, r => r.mono (by omega) (by omega)
  | w, d :: ds, es, h, r => by
    have h1 : Nz n (d.weight) d := by
      have a := h.nd; have b := h.lay; have c := h.sho; have e := h.hd; have f := h.ish; have g := h.dp
      simp only [VL.nds, PyData.canLayAll0, PyData.showableAll, PyData.hasDictAll, PyData.intsShortAll, PyData.depthAll, Bool.and_eq_true, Bool.or_eq_false_iff] at a b c e f g
      exact ⟨a.1, b.1, c.1, e.1, f.1, by omega, Nat.le_refl _⟩
    have h2 : NzL n (PyData.weightAll ds) ds := by
      have a := h.nd; have b := h.lay; have c := h.sho; have e := h.hd; have f := h.ish; have g := h.dp
      simp only [VL.nds, PyData.canLayAll0, PyData.showableAll, PyData.hasDictAll, PyData.intsShortAll, PyData.depthAll, Bool.and_eq_true, Bool.or_eq_false_iff] at a b c e f g
      exact ⟨a.2, b.2, c.2, e.2, f.2, by omega, Nat.le_refl _⟩
    have := h.wt
    simp only [PyData.weightAll] at this
    exact (NzL.cons h1 (NzL.app h2 r)).mono (by omega) (by omega)
theorem Nz.okD (h : Nz n w d) (hn : n ≤ 64) : VL.okD d = true := by
  unfold VL.okD SeqAt.shaped
  simp only [Bool.and_eq_true, decide_eq_true_eq]
  exact ⟨h.nd, h.lay, Nat.le_trans h.dp hn⟩
theorem Nz.okS (h : Nz n w d) (hn : n ≤ 64) : VL.okS d = true := by
  unfold VL.okS
  simp only [Bool.and_eq_true, decide_eq_true_eq, Bool.not_eq_true']
  exact ⟨⟨⟨h.nd, h.sho⟩, h.hd⟩, Nat.le_trans h.dp hn⟩
theorem Nz.shown (h : Nz n w d) (hn : n ≤ 64) (hw : w ≤ 1048576) : d.shown.length ≤ sizeLine := by
  refine Nat.le_trans (shown_le13 (d := d) ?_ h.ish) (by decide)
  unfold PyData.layable0
  simp only [Bool.and_eq_true, decide_eq_true_eq]
  exact ⟨⟨h.lay, Nat.le_trans h.dp hn⟩, Nat.le_trans h.wt (Nat.le_trans hw (by decide))⟩
theorem Nz.refl (h : Nz n w d) : PyData.eqv d d = true := SeqAt.eqv_refl d h.lay
theorem low_ok {x : Str} (h : isLow x) : PyData.strOk x = true := by
  unfold PyData.strOk
  rw [Array.all_eq_true_iff_forall_mem]
  intro c m
  have := h c (by simpa using m)
  simp only [decide_eq_true_eq]
  omega
end

/-! ### 37. Places in lists that are written out, in mapped ones -/
theorem atI_of {α : Type} {xs : List α} {i : Int} (h0 : 0 ≤ i) : L2.atI xs i = xs[i.toNat]? := by
  by_cases h : i < (xs.length : Int)
  · have e : i = ((i.toNat : Nat) : Int) := by omega
    have hi : i.toNat < xs.length := by omega
    rw [e, Int.toNat_natCast, List.getElem?_eq_getElem hi]
    exact atI_nat (List.getElem?_eq_getElem hi)
  · have e1 : xs[i.toNat]? = none := List.getElem?_eq_none (by omega)
    rw [e1]
    unfold L2.atI L2.ixN
    rw [if_pos h0, if_neg h]
    rfl
theorem ix_map {α : Type} {f : α → D} {K : D → Prop} {xs : List α} {i : Int} (h0 : 0 ≤ i) (h : i < (xs.length : Int)) (k : ∀ x ∈ xs, xs[i.toNat]? = some x → K (f x)) : ∃ d, L2.atI (xs.map f) i = some d ∧ K d := by
  have hi : i.toNat < xs.length := by omega
  refine ⟨f xs[i.toNat], ?_, k _ (List.getElem_mem hi) (List.getElem?_eq_getElem hi)⟩
  rw [atI_of h0, List.getElem?_map, List.getElem?_eq_getElem hi]
  rfl
theorem ix_cons {K : D → Prop} {d : D} {ds : List D} {i : Int} (h0 : 0 ≤ i) (k0 : i = 0 → K d) (k1 : 1 ≤ i → ∃ c, L2.atI ds (i - 1) = some c ∧ K c) : ∃ c, L2.atI (d :: ds) i = some c ∧ K c := by
  by_cases z : i = 0
  · exact ⟨d, by subst z; rw [atI_of (Int.le_refl 0)]; rfl, k0 z⟩
  · obtain ⟨c, e, k⟩ := k1 (by omega)
    refine ⟨c, ?_, k⟩
    rw [atI_of (by omega)] at e
    rw [atI_of h0, show i.toNat = (i - 1).toNat + 1 by omega, List.getElem?_cons_succ]
    exact e
theorem ix_nil {K : D → Prop} {i : Int} (h : False) : ∃ c, L2.atI ([] : List D) i = some c ∧ K c := h.elim
/-- a sign of a text whose signs are below 128 -/
theorem ix_sgnL {K : Nat → Prop} {x : Str} {i : Int} {n m : Nat} (hx : x.cps.toList.all (· < n) = true) (hl : x.length = m) (h0 : 0 ≤ i) (h : i < (m : Int)) (k : ∀ c, c < n → K c) : ∃ c, L2.atI x.cps.toList i = some c ∧ K c := by
  have hi : i.toNat < x.cps.toList.length := by rw [← len_list]; omega
  refine ⟨x.cps.toList[i.toNat], ?_, ?_⟩
  · rw [atI_of h0, List.getElem?_eq_getElem hi]
  · have := List.all_eq_true.mp hx _ (List.getElem_mem hi)
    exact k _ (by simpa using this)
theorem cut_len {α : Type} {xs : List α} {lo hi : Option Int} {n : Nat} (h : xs.length ≤ n) : (VL.cutD xs lo hi).length ≤ n := by
  unfold VL.cutD
  rw [List.length_take, List.length_drop]
  omega
theorem cut_mem {α : Type} {xs : List α} {lo hi : Option Int} {x : α} (h : x ∈ VL.cutD xs lo hi) : x ∈ xs := List.mem_of_mem_drop (List.mem_of_mem_take h)
theorem cut_map {α β : Type} {f : α → β} {xs : List α} {lo hi : Option Int} : VL.cutD (xs.map f) lo hi = (VL.cutD xs lo hi).map f := by
  unfold VL.cutD
  rw [List.length_map, List.map_take, List.map_drop]
theorem all_true {α : Type} {ds : List α} : (ds.map fun _ => true).all id = true := by
  rw [List.all_eq_true]
  intro b m
  obtain ⟨_, _, e⟩ := List.mem_map.mp m
  exact e.symm
theorem bls_map {α : Type} {f : α → Bool} : ∀ ds : List α, blsOf (ds.map fun d => PyData.bool (f d)) = some (ds.map f)
  | [] => rfl
  | d :: ds => by
    show (blsOf (ds.map fun d => PyData.bool (f d))).map (f d :: ·) = _
    rw [bls_map ds]; rfl
theorem absd {b : Bool} {p : Prop} (c : b = true) (e : b = false) : p := by rw [e] at c; cases c
theorem absd2 {b : Bool} {p : Prop} (c : b = false) (e : b = true) : p := by rw [e] at c; cases c
theorem ones_join {ys : List Str} (h : ∀ y ∈ ys, y.length = 1) : (Txt.join "" ys).length = ys.length := PySem.W.KT.join_ones ys h
end VL

namespace VL
open PySem PySem.Spec PyProof.Rows L2

/-! ### 38. Terms -/
inductive Tr
  | num (i : Int)
  | cel (s : Str)
  | inn (i : Int)
  | op (c : Nat) (a b : Tr)
def sg (c : Nat) : Str := ⟨#[c]⟩
def sixL : List Nat := [43, 45, 42, 58, 60, 61]
def Tr.d : Tr → D
  | .num i => .tuple [.str "num", .int i]
  | .cel s => .tuple [.str "cell", .str s]
  | .inn i => .tuple [.str "in", .int i]
  | .op c a b => .tuple [.str "op", .str (sg c), a.d, b.d]
def Tr.down : Tr → Nat
  | .op _ a b => 1 + max a.down b.down
  | _ => 0
def Tr.parts : Tr → List Tr
  | .op s a b => .op s a b :: (a.parts ++ b.parts)
  | t => [t]
def celOf : Tr → Option Str
  | .cel s => some s
  | _ => none
def Tr.cells (t : Tr) : List Str := t.parts.filterMap celOf
/-- of the forms: numbers, cells of S, numbers handed in, the six signs -/
def Tr.ok (S : Str → Prop) : Tr → Prop
  | .num i => 0 ≤ i ∧ i ≤ 999999
  | .cel s => S s
  | .inn i => 0 ≤ i ∧ i ≤ 2
  | .op c a b => c ∈ sixL ∧ a.ok S ∧ b.ok S
theorem six_of {c : Nat} (h : c ∈ (Str.ofString "+-*:<=").cps.toList) : c ∈ sixL := by
  have e : (Str.ofString "+-*:<=").cps.toList = sixL := by decide +kernel
  rw [← e]; exact h
theorem ix_sgnM {K : Nat → Prop} {x : Str} {i : Int} {m : Nat} (hl : x.length = m) (h0 : 0 ≤ i) (h : i < (m : Int)) (k : ∀ c ∈ x.cps.toList, K c) : ∃ c, L2.atI x.cps.toList i = some c ∧ K c := by
  have hi : i.toNat < x.cps.toList.length := by rw [← len_list]; omega
  exact ⟨x.cps.toList[i.toNat], by rw [atI_of h0, List.getElem?_eq_getElem hi], k _ (List.getElem_mem hi)⟩
theorem six_lt : ∀ c ∈ sixL, c < 128 := by decide
theorem sg_ok {c : Nat} (h : c < 128) : PyData.strOk (sg c) = true := by
  unfold PyData.strOk sg
  simp
  omega
section
variable {S : Str → Prop}
theorem Tr.mono {S' : Str → Prop} (h : ∀ s, S s → S' s) : ∀ {t : Tr}, t.ok S → t.ok S'
  | .num _, q => q
  | .cel _, q => h _ q
  | .inn _, q => q
  | .op _ _ _, ⟨q1, q2, q3⟩ => ⟨q1, Tr.mono h q2, Tr.mono h q3⟩
theorem Tr.pos : ∀ t : Tr, 1 ≤ t.parts.length
  | .num _ => Nat.le_refl _
  | .cel _ => Nat.le_refl _
  | .inn _ => Nat.le_refl _
  | .op _ _ _ => by simp [Tr.parts]
theorem Tr.nz (hS : ∀ s, S s → isLow s ∧ s.length ≤ 30) : ∀ {t : Tr}, t.ok S → Nz (t.down + 1) (50 * t.parts.length) t.d
  | .num i, ⟨h0, h1⟩ => (Nz.tup (NzL.cons (Nz.str (by decide +kernel)) (NzL.cons (Nz.int (by omega)) NzL.nil))).mono (by show max 0 (max 0 0) + 1 ≤ 0 + 1; decide) (by show _ ≤ 50 * 1; decide +kernel)
  | .inn i, ⟨h0, h1⟩ => (Nz.tup (NzL.cons (Nz.str (by decide +kernel)) (NzL.cons (Nz.int (by omega)) NzL.nil))).mono (by show max 0 (max 0 0) + 1 ≤ 0 + 1; decide) (by show _ ≤ 50 * 1; decide +kernel)
  | .cel s, h => by
    have z : (Str.ofString "cell").length = 4 := by decide +kernel
    have := (hS s h).2
    refine (Nz.tup (NzL.cons (Nz.str (x := "cell") (by decide +kernel)) (NzL.cons (Nz.str (low_ok (hS s h).1)) NzL.nil))).mono (by show max 0 (max 0 0) + 1 ≤ 0 + 1; decide) ?_
    rw [z]
    show _ ≤ 50 * 1
    omega
  | .op c a b, ⟨h1, h2, h3⟩ => by
    have z : (Str.ofString "op").length = 2 := by decide +kernel
    have z2 : (sg c).length = 1 := rfl
    have := Tr.pos a
    refine (Nz.tup (NzL.cons (Nz.str (x := "op") (by decide +kernel)) (NzL.cons (Nz.str (sg_ok (six_lt c h1))) (NzL.cons (Tr.nz hS h2) (NzL.cons (Tr.nz hS h3) NzL.nil))))).mono ?_ ?_
    · simp only [Tr.down]; omega
    · rw [z, z2]
      simp only [Tr.parts, List.length_cons, List.length_append]
      omega
theorem Tr.in_parts : ∀ {t p : Tr}, t.ok S → p ∈ t.parts → p.ok S ∧ p.down ≤ t.down ∧ p.parts.length ≤ t.parts.length
  | .num _, p, h, m => by rw [List.mem_singleton.mp m]; exact ⟨h, Nat.le_refl _, Nat.le_refl _⟩
  | .cel _, p, h, m => by rw [List.mem_singleton.mp m]; exact ⟨h, Nat.le_refl _, Nat.le_refl _⟩
  | .inn _, p, h, m => by rw [List.mem_singleton.mp m]; exact ⟨h, Nat.le_refl _, Nat.le_refl _⟩
  | .op c a b, p, h, m => by
    simp only [Tr.parts, List.mem_cons, List.mem_append] at m
    rcases m with rfl | m | m
    · exact ⟨h, Nat.le_refl _, Nat.le_refl _⟩
    · obtain ⟨q1, q2, q3⟩ := Tr.in_parts h.2.1 m
      refine ⟨q1, ?_, ?_⟩
      · simp only [Tr.down]; omega
      · simp only [Tr.parts, List.length_cons, List.length_append]; omega
    · obtain ⟨q1, q2, q3⟩ := Tr.in_parts h.2.2 m
      refine ⟨q1, ?_, ?_⟩
      · simp only [Tr.down]; omega
      · simp only [Tr.parts, List.length_cons, List.length_append]; omega
theorem Tr.parts_nz (hS : ∀ s, S s → isLow s ∧ s.length ≤ 30) {t : Tr} (h : t.ok S) : NzL (t.down + 1) ((50 * t.parts.length + 1) * t.parts.length) (t.parts.map Tr.d) := by
  have := NzL.all (n := t.down + 1) (w := 50 * t.parts.length) (ds := t.parts.map Tr.d) fun d m => by
    obtain ⟨p, mp, rfl⟩ := List.mem_map.mp m
    obtain ⟨q1, q2, q3⟩ := Tr.in_parts h mp
    exact (Tr.nz hS q1).mono (by omega) (Nat.mul_le_mul_left _ q3)
  rwa [List.length_map] at this
theorem Tr.cells_in {t : Tr} (h : t.ok S) : ∀ s ∈ t.cells, S s := by
  intro s m
  obtain ⟨p, mp, e⟩ := List.mem_filterMap.mp m
  have q := (Tr.in_parts h mp).1
  cases p with
  | cel x => cases e; exact q
  | num _ => cases e
  | inn _ => cases e
  | op _ _ _ => cases e
theorem Tr.cells_len (t : Tr) : t.cells.length ≤ t.parts.length := List.length_filterMap_le _ _
end
end VL

namespace VL
open PySem PySem.Spec PyProof.Rows L2

/-! ### 39. What defs that stand in many laws promise -/
def sp_law_take : ASp := fun os k kx => ∃ a b m, os = [.ls [.int a, .int b], .p (.int m)] ∧ 0 < m ∧ m < 1073741824 ∧ ∀ r a' b', 0 ≤ r → r < m → k (.p (.int r)) [.ls [.int a', .int b'], .p (.int m)]
def sp_law_feed : ASp := fun os k kx => ∃ ns i, os = [.fl ns, .p (.int i)] ∧ ns.length ≤ 63 ∧ 0 ≤ i ∧ i < 1000 ∧ ∀ a b, k (.ow (.ls [.int a, .int b])) [.fl ns, .p (.int i)]
def sp_law_names : ASp := fun os k kx => ∃ a b n, os = [.ls [.int a, .int b], .p (.int n)] ∧ 1 ≤ n ∧ n ≤ 26 ∧
  ∀ (ws : List Str) a' b', (ws.length : Int) = n → Names ws → k (.ow (.ls (ws.map PyData.str))) [.ls [.int a', .int b'], .p (.int n)]
def sp_law_number : ASp := fun os k kx => ∃ a b, os = [.ls [.int a, .int b]] ∧ ∀ v a' b', 0 ≤ v → v ≤ 999999 → k (.p (.int v)) [.ls [.int a', .int b']]
def sp_parts (n : Nat) : ASp := fun os k kx => ∃ t : Tr, os = [.p t.d] ∧ t.down < n ∧ t.parts.length ≤ 1000 ∧ k (.ow (.ls (t.parts.map Tr.d))) [.p t.d]
def sp_deep (n : Nat) : ASp := fun os k kx => ∃ t : Tr, os = [.p t.d] ∧ t.down < n ∧ k (.p (.int (t.down : Int))) [.p t.d]
def sp_cells (n : Nat) : ASp := fun os k kx => ∃ t : Tr, os = [.p t.d] ∧ t.down < n ∧ t.parts.length ≤ 1000 ∧ k (.ow (.ls (t.cells.map PyData.str))) [.p t.d]
/-- a def that calls itself promises nothing of what is too deep -/
theorem no_fuel {P : Program} {w : World} {K : PySem.W.Frag} {mg : Str → Option Value} {base : Heap} {k : Nat} {fa : Addr} {fd : FuncData} {ps : List Str} {B : List Nat} {sp : ASp} (h : ∀ os k kx, ¬ sp os k kx) : FnV P w K mg base k fa fd ps B sp :=
  ⟨fun _ _ _ _ ⟨_, _, _, _, _, _, _, _, z, _⟩ => (h _ _ _ z).elim, fun _ _ _ _ _ _ _ _ _ _ _ _ _ _ ⟨_, _, _, _, _, _, _, _, z, _⟩ => (h _ _ _ z).elim⟩

theorem join_eq (x : Str) (ys : List Str) : Txt.join x ys = Str.join x ys := by
  show Builtin.Str.glued x ys = _
  rw [StrLaws.glued_eq_join]
theorem low_join : ∀ {ys : List Str}, (∀ y ∈ ys, isLow y) → isLow (Txt.join "" ys)
  | [], _ => by
    rw [join_eq]
    intro c m
    simp [Str.join, Str.empty] at m
  | [y], h => by rw [join_eq]; exact h y (List.mem_cons_self ..)
  | y :: z :: ys, h => by
    have ih := low_join (ys := z :: ys) fun y m => h y (List.mem_cons_of_mem _ m)
    rw [join_eq] at ih ⊢
    show isLow (y ++ (Str.ofString "") ++ Str.join (Str.ofString "") (z :: ys))
    refine low_app (low_app (h y (List.mem_cons_self ..)) ?_) ih
    intro c m
    have e : (Str.ofString "").cps.toList = [] := by decide +kernel
    rw [e] at m
    cases m

/-! ### 39b. Walks by place -/
section
variable {b : Bd} {tb : AS} {N : AN} {vs : List Nat} {tt : AT} {te : AE} {Q : List D → Gm → Prop} {α : Type}
theorem forW_at {ds : List D} (I : Nat → Gm → Prop) (st : ∀ i d g (K : Gm → Prop), ds[i]? = some d → I i g → (∀ g', I (i + 1) g' → K g') → b d g fun g1 => tb (N.loop K) g1) (fin : ∀ g, I ds.length g → N.nx g) (g : Gm) (h : I 0 g) : forW b tb N ds g := by
  refine forW_go (fun rest g => ∃ i, ds.drop i = rest ∧ i + rest.length = ds.length ∧ I i g) ?_ ?_ ds g ⟨0, rfl, by simp, h⟩
  · rintro d rest g K ⟨i, e, el, hi⟩ hk
    rw [List.length_cons] at el
    refine st i d g K ?_ hi fun g' h' => hk g' ⟨i + 1, ?_, by omega, h'⟩
    · have := congrArg (fun l => l[0]?) e
      simpa [List.getElem?_drop] using this
    · have := congrArg List.tail e
      simpa [List.tail_drop] using this
  · rintro g ⟨i, e, el, hi⟩
    rw [List.length_nil] at el
    rw [show i = ds.length by omega] at hi
    exact fin g hi
theorem forW_rng {f : Nat → D} {n : Nat} (I : Nat → Gm → Prop) (st : ∀ i g (K : Gm → Prop), i < n → I i g → (∀ g', I (i + 1) g' → K g') → b (f i) g fun g1 => tb (N.loop K) g1) (fin : ∀ g, I n g → N.nx g) (g : Gm) (h : I 0 g) : forW b tb N ((List.range n).map f) g := by
  refine forW_at I (fun i d g K e hi hk => ?_) (fun g hg => fin g (by simpa using hg)) g h
  rw [List.getElem?_map, Option.map_eq_some_iff] at e
  obtain ⟨j, e1, e2⟩ := e
  have := List.getElem?_eq_some_iff.mp e1
  obtain ⟨hl, e3⟩ := this
  rw [List.length_range] at hl
  rw [List.getElem_range] at e3
  subst e3
  rw [← e2]
  exact st i g K hl hi hk
theorem forW_map {f : α → D} {xs : List α} (I : Nat → Gm → Prop) (st : ∀ i x g (K : Gm → Prop), xs[i]? = some x → I i g → (∀ g', I (i + 1) g' → K g') → b (f x) g fun g1 => tb (N.loop K) g1) (fin : ∀ g, I xs.length g → N.nx g) (g : Gm) (h : I 0 g) : forW b tb N (xs.map f) g := by
  refine forW_at I (fun i d g K e hi hk => ?_) (fun g hg => fin g (by simpa using hg)) g h
  rw [List.getElem?_map, Option.map_eq_some_iff] at e
  obtain ⟨x, e1, e2⟩ := e
  rw [← e2]
  exact st i x g K e1 hi hk
theorem lcW_at {ds : List D} (I : Nat → List D → Gm → Prop) (st : ∀ i d acc g (K : List D → Gm → Prop), ds[i]? = some d → I i acc g → (∀ acc' g', I (i + 1) acc' g' → K acc' g') → lcT vs b tt te d acc g K) (fin : ∀ acc g, I ds.length acc g → Q acc g) (g : Gm) (h : I 0 [] g) : lcW vs b tt te Q ds [] g := by
  refine lcW_go (fun rest acc g => ∃ i, ds.drop i = rest ∧ i + rest.length = ds.length ∧ I i acc g) ?_ ?_ ds [] g ⟨0, rfl, by simp, h⟩
  · rintro d rest acc g K ⟨i, e, el, hi⟩ hk
    rw [List.length_cons] at el
    refine st i d acc g K ?_ hi fun acc' g' h' => hk acc' g' ⟨i + 1, ?_, by omega, h'⟩
    · have := congrArg (fun l => l[0]?) e
      simpa [List.getElem?_drop] using this
    · have := congrArg List.tail e
      simpa [List.tail_drop] using this
  · rintro acc g ⟨i, e, el, hi⟩
    rw [List.length_nil] at el
    rw [show i = ds.length by omega] at hi
    exact fin acc g hi
theorem lcW_rng {f : Nat → D} {n : Nat} (I : Nat → List D → Gm → Prop) (st : ∀ i acc g (K : List D → Gm → Prop), i < n → I i acc g → (∀ acc' g', I (i + 1) acc' g' → K acc' g') → lcT vs b tt te (f i) acc g K) (fin : ∀ acc g, I n acc g → Q acc g) (g : Gm) (h : I 0 [] g) : lcW vs b tt te Q ((List.range n).map f) [] g := by
  refine lcW_at I (fun i d acc g K e hi hk => ?_) (fun acc g hg => fin acc g (by simpa using hg)) g h
  rw [List.getElem?_map, Option.map_eq_some_iff] at e
  obtain ⟨j, e1, e2⟩ := e
  have := List.getElem?_eq_some_iff.mp e1
  obtain ⟨hl, e3⟩ := this
  rw [List.length_range] at hl
  rw [List.getElem_range] at e3
  subst e3
  rw [← e2]
  exact st i acc g K hl hi hk
theorem lcW_mapd {f : α → D} {xs : List α} (I : Nat → List D → Gm → Prop) (st : ∀ i x acc g (K : List D → Gm → Prop), xs[i]? = some x → I i acc g → (∀ acc' g', I (i + 1) acc' g' → K acc' g') → lcT vs b tt te (f x) acc g K) (fin : ∀ acc g, I xs.length acc g → Q acc g) (g : Gm) (h : I 0 [] g) : lcW vs b tt te Q (xs.map f) [] g := by
  refine lcW_at I (fun i d acc g K e hi hk => ?_) (fun acc g hg => fin acc g (by simpa using hg)) g h
  rw [List.getElem?_map, Option.map_eq_some_iff] at e
  obtain ⟨x, e1, e2⟩ := e
  rw [← e2]
  exact st i x acc g K e1 hi hk
/-- each thing's own, nothing else is changed: over a mapped list -/
theorem lcW_maps {g : Gm} {f : α → D} (h : α → D) {xs : List α} (hl : xs.length ≤ sizeLine) (st : ∀ x ∈ xs, ∀ acc (K : List D → Gm → Prop), acc.length < sizeLine → K (acc ++ [h x]) g → lcT vs b tt te (f x) acc g K) (fin : Q (xs.map h) g) : lcW vs b tt te Q (xs.map f) [] g := by
  refine lcW_mapd (fun i acc g' => g' = g ∧ acc = (xs.take i).map h) ?_ ?_ g ⟨rfl, rfl⟩
  · rintro i x acc g' K e ⟨rfl, rfl⟩ hk
    have hi := (List.getElem?_eq_some_iff.mp e).1
    refine st x (List.mem_of_getElem? e) _ K ?_ (hk _ _ ⟨rfl, ?_⟩)
    · rw [List.length_map, List.length_take]; omega
    · rw [List.take_succ, e, List.map_append]; rfl
  · rintro acc g' ⟨rfl, rfl⟩
    rw [List.take_length]
    exact fin
/-- .. and some are left out -/
theorem lcW_filt {g : Gm} {f : α → D} (p : α → Bool) (h : α → D) {xs : List α} (hl : xs.length ≤ sizeLine) (st : ∀ x ∈ xs, ∀ acc (K : List D → Gm → Prop), acc.length < sizeLine → K (if p x = true then acc ++ [h x] else acc) g → lcT vs b tt te (f x) acc g K) (fin : Q ((xs.filter p).map h) g) : lcW vs b tt te Q (xs.map f) [] g := by
  refine lcW_mapd (fun i acc g' => g' = g ∧ acc = ((xs.take i).filter p).map h) ?_ ?_ g ⟨rfl, rfl⟩
  · rintro i x acc g' K e ⟨rfl, rfl⟩ hk
    have hi := (List.getElem?_eq_some_iff.mp e).1
    refine st x (List.mem_of_getElem? e) _ K ?_ (hk _ _ ⟨rfl, ?_⟩)
    · rw [List.length_map]
      have := List.length_filter_le p (xs.take i)
      rw [List.length_take] at this
      omega
    · rw [List.take_succ, e]
      simp only [Option.toList_some, List.filter_append, List.map_append]
      cases q : p x with
      | true => simp [q]
      | false => simp [q]
  · rintro acc g' ⟨rfl, rfl⟩
    rw [List.take_length]
    exact fin
end

/-! ### 40. Places by written numbers -/
theorem ix_0 {α : Type} {K : α → Prop} {xs : List α} {d : α} (h : xs[0]? = some d) (k : K d) : ∃ c, L2.atI xs 0 = some c ∧ K c := ⟨d, by rw [atI_of (by decide)]; exact h, k⟩
theorem ix_1 {α : Type} {K : α → Prop} {xs : List α} {d : α} (h : xs[1]? = some d) (k : K d) : ∃ c, L2.atI xs 1 = some c ∧ K c := ⟨d, by rw [atI_of (by decide)]; exact h, k⟩
theorem ix_2 {α : Type} {K : α → Prop} {xs : List α} {d : α} (h : xs[2]? = some d) (k : K d) : ∃ c, L2.atI xs 2 = some c ∧ K c := ⟨d, by rw [atI_of (by decide)]; exact h, k⟩
theorem ix_3 {α : Type} {K : α → Prop} {xs : List α} {d : α} (h : xs[3]? = some d) (k : K d) : ∃ c, L2.atI xs 3 = some c ∧ K c := ⟨d, by rw [atI_of (by decide)]; exact h, k⟩
theorem ix_4 {α : Type} {K : α → Prop} {xs : List α} {d : α} (h : xs[4]? = some d) (k : K d) : ∃ c, L2.atI xs 4 = some c ∧ K c := ⟨d, by rw [atI_of (by decide)]; exact h, k⟩
theorem ix_5 {α : Type} {K : α → Prop} {xs : List α} {d : α} (h : xs[5]? = some d) (k : K d) : ∃ c, L2.atI xs 5 = some c ∧ K c := ⟨d, by rw [atI_of (by decide)]; exact h, k⟩
theorem ix_6 {α : Type} {K : α → Prop} {xs : List α} {d : α} (h : xs[6]? = some d) (k : K d) : ∃ c, L2.atI xs 6 = some c ∧ K c := ⟨d, by rw [atI_of (by decide)]; exact h, k⟩
theorem ix_7 {α : Type} {K : α → Prop} {xs : List α} {d : α} (h : xs[7]? = some d) (k : K d) : ∃ c, L2.atI xs 7 = some c ∧ K c := ⟨d, by rw [atI_of (by decide)]; exact h, k⟩
theorem ix_8 {α : Type} {K : α → Prop} {xs : List α} {d : α} (h : xs[8]? = some d) (k : K d) : ∃ c, L2.atI xs 8 = some c ∧ K c := ⟨d, by rw [atI_of (by decide)]; exact h, k⟩
theorem ix_9 {α : Type} {K : α → Prop} {xs : List α} {d : α} (h : xs[9]? = some d) (k : K d) : ∃ c, L2.atI xs 9 = some c ∧ K c := ⟨d, by rw [atI_of (by decide)]; exact h, k⟩
theorem ix_m {α : Type} {K : α → Prop} {xs : List α} {d : α} {n : Nat} (h : xs.reverse[n]? = some d) (k : K d) : ∃ c, L2.atI xs (-((n : Int) + 1)) = some c ∧ K c := by
  refine ⟨d, ?_, k⟩
  have hl : n < xs.length := by
    have := (List.getElem?_eq_some_iff.mp h).1
    rwa [List.length_reverse] at this
  rw [List.getElem?_reverse hl] at h
  unfold L2.atI L2.ixN
  rw [if_neg (by omega), if_pos (by omega)]
  show xs[(-((n : Int) + 1) + (xs.length : Int)).toNat]? = _
  rw [show (-((n : Int) + 1) + (xs.length : Int)).toNat = xs.length - 1 - n by omega]
  exact h
theorem ix_m1 {α : Type} {K : α → Prop} {xs : List α} {d : α} (h : xs.reverse[0]? = some d) (k : K d) : ∃ c, L2.atI xs (-1) = some c ∧ K c := ix_m (n := 0) h k
theorem ix_m2 {α : Type} {K : α → Prop} {xs : List α} {d : α} (h : xs.reverse[1]? = some d) (k : K d) : ∃ c, L2.atI xs (-2) = some c ∧ K c := ix_m (n := 1) h k
theorem ix_am1 {α : Type} {K : α → Prop} {xs : List α} {y : α} (k : K y) : ∃ c, L2.atI (xs ++ [y]) (-1) = some c ∧ K c := ix_m1 (by simp) k
theorem ix_am2 {α : Type} {K : α → Prop} {xs : List α} {x y : α} (k : K x) : ∃ c, L2.atI (xs ++ [x] ++ [y]) (-2) = some c ∧ K c := ix_m2 (by simp) k
theorem mulq_ok {p : Prop} [Decidable p] : MulOk qS (if p then 1 else 0) := by
  unfold MulOk
  split
  · exact ⟨by decide, fun _ h => absurd h (by decide), fun _ h => absurd h (by decide)⟩
  · exact ⟨by decide, fun h => absurd (by decide) h, fun h => absurd (by decide) h⟩
theorem mulq_len {p : Prop} [Decidable p] : (Txt.mul qS (if p then 1 else 0)).length ≤ 1 := by
  split
  · decide +kernel
  · decide +kernel
end VL

    set_option Elab.async false
    set_option linter.all false
    set_option maxRecDepth 100000
    set_option maxHeartbeats 4000000
    namespace VL
    open PySem PySem.Spec PyProof.Rows L2

    /-! ### 41. The readings at a state that is written out -/
    theorem x_aNil {Q : List R → Gm → Prop} {E0 : EX} {g0 : Gm} {o0 : Option O} : aNil  (o0 :: g0) Q E0 = (fun (g : Gm) => (Q [] g : Prop)) (o0 :: g0) := rfl
theorem x_aCons {T2 : List Nat} {t1 : AE} {t2 : AA} {Q : List R → Gm → Prop} {E : EX} {g0 : Gm} {o0 : Option O} : aCons T2 t1 t2 (o0 :: g0) Q E = (fun (g : Gm) => (t1 g (fun r g1 => grd r T2 (t2 g1 (fun rs g2 => Q (r :: rs) g2) E)) E : Prop)) (o0 :: g0) := rfl
theorem x_rOp {aop : Aop} {ta : AA} {Q : R → Gm → Prop} {E : EX} {g0 : Gm} {o0 : Option O} : rOp aop ta (o0 :: g0) Q E = (fun (g : Gm) => (ta g (fun rs g1 => match datL dat rs with
  | some ds => aop ds fun rr => Q rr g1
  | none => False) E : Prop)) (o0 :: g0) := rfl
theorem x_rOu {aop : Aop} {ta : AA} {Q : R → Gm → Prop} {E : EX} {g0 : Gm} {o0 : Option O} : rOu aop ta (o0 :: g0) Q E = (fun (g : Gm) => (ta g (fun rs g1 => match datL datu rs with
  | some ds => aop ds fun rr => Q rr g1
  | none => False) E : Prop)) (o0 :: g0) := rfl
theorem x_rVar {i : Nat} {Q : R → Gm → Prop} {E0 : EX} {g0 : Gm} {o0 : Option O} : rVar i (o0 :: g0) Q E0 = (fun (g : Gm) => (match g[i]? with
  | some (some o) => Q (vwO i o) g
  | _ => False : Prop)) (o0 :: g0) := rfl
theorem x_rC {d : D} {Q : R → Gm → Prop} {E0 : EX} {g0 : Gm} {o0 : Option O} : rC d (o0 :: g0) Q E0 = (fun (g : Gm) => (Q (.p d) g : Prop)) (o0 :: g0) := rfl
theorem x_rT {te : AE} {Q : Bool → Gm → Prop} {E : EX} {g0 : Gm} {o0 : Option O} : rT te (o0 :: g0) Q E = (fun (g : Gm) => (te g (fun r g1 => match r with
  | .p (.bool b) => Q b g1
  | _ => False) E : Prop)) (o0 :: g0) := rfl
theorem x_rTand {T2 : List Nat} {t u : AT} {Q : Bool → Gm → Prop} {E : EX} {g0 : Gm} {o0 : Option O} : rTand T2 t u (o0 :: g0) Q E = (fun (g : Gm) => (t g (fun b g1 => if b = true then u g1 Q E else Q false g1) E : Prop)) (o0 :: g0) := rfl
theorem x_rTor {T2 : List Nat} {t u : AT} {Q : Bool → Gm → Prop} {E : EX} {g0 : Gm} {o0 : Option O} : rTor T2 t u (o0 :: g0) Q E = (fun (g : Gm) => (t g (fun b g1 => if b = true then Q true g1 else u g1 Q E) E : Prop)) (o0 :: g0) := rfl
theorem x_rTnot {t : AT} {Q : Bool → Gm → Prop} {E : EX} {g0 : Gm} {o0 : Option O} : rTnot t (o0 :: g0) Q E = (fun (g : Gm) => (t g (fun b g1 => Q (!b) g1) E : Prop)) (o0 :: g0) := rfl
theorem x_rAnd {ta tb : AE} {Q : R → Gm → Prop} {E : EX} {g0 : Gm} {o0 : Option O} : rAnd ta tb (o0 :: g0) Q E = (fun (g : Gm) => (ta g (fun r g1 => match r with
  | .p (.bool b) => if b = true then tb g1 Q E else Q (.p (.bool false)) g1
  | _ => False) E : Prop)) (o0 :: g0) := rfl
theorem x_rOr {ta tb : AE} {Q : R → Gm → Prop} {E : EX} {g0 : Gm} {o0 : Option O} : rOr ta tb (o0 :: g0) Q E = (fun (g : Gm) => (ta g (fun r g1 => match r with
  | .p (.bool b) => if b = true then Q (.p (.bool true)) g1 else tb g1 Q E
  | _ => False) E : Prop)) (o0 :: g0) := rfl
theorem x_rNot {ta : AE} {Q : R → Gm → Prop} {E : EX} {g0 : Gm} {o0 : Option O} : rNot ta (o0 :: g0) Q E = (fun (g : Gm) => (ta g (fun r g1 => match r with
  | .p (.bool b) => Q (.p (.bool (!b))) g1
  | _ => False) E : Prop)) (o0 :: g0) := rfl
theorem x_rIf {t : AT} {ta tb : AE} {Q : R → Gm → Prop} {E : EX} {g0 : Gm} {o0 : Option O} : rIf t ta tb (o0 :: g0) Q E = (fun (g : Gm) => (t g (fun b g1 => if b = true then ta g1 Q E else tb g1 Q E) E : Prop)) (o0 :: g0) := rfl
theorem x_rOt {aop : Aop} {ta : AA} {Q : R → Gm → Prop} {E : EX} {g0 : Gm} {o0 : Option O} : rOt aop ta (o0 :: g0) Q E = (fun (g : Gm) => (ta g (fun rs g1 => match takes rs with
  | some ds => aop ds fun rr => Q rr g1
  | none => False) E : Prop)) (o0 :: g0) := rfl
theorem x_rNewD {Q : R → Gm → Prop} {E0 : EX} {g0 : Gm} {o0 : Option O} : rNewD  (o0 :: g0) Q E0 = (fun (g : Gm) => (Q (.ow (.dc [])) g : Prop)) (o0 :: g0) := rfl
theorem x_rSlLU {T2 T3 : List Nat} {ta tb tc : AE} {Q : R → Gm → Prop} {E : EX} {g0 : Gm} {o0 : Option O} : rSlLU T2 T3 ta tb tc (o0 :: g0) Q E = (fun (g : Gm) => (ta g (fun r1 g1 => grd r1 (T2 ++ T3) (tb g1 (fun r2 g2 => isI r2 fun i => tc g2 (fun r3 g3 => isI r3 fun j => match datu r1 with
  | some d => aSl d (some i) (some j) fun rr => Q rr g3
  | none => False) E) E)) E : Prop)) (o0 :: g0) := rfl
theorem x_rSlL {T2 : List Nat} {ta tb : AE} {Q : R → Gm → Prop} {E : EX} {g0 : Gm} {o0 : Option O} : rSlL T2 ta tb (o0 :: g0) Q E = (fun (g : Gm) => (ta g (fun r1 g1 => grd r1 T2 (tb g1 (fun r2 g2 => isI r2 fun i => match datu r1 with
  | some d => aSl d (some i) none fun rr => Q rr g2
  | none => False) E)) E : Prop)) (o0 :: g0) := rfl
theorem x_rSlU {T2 : List Nat} {ta tb : AE} {Q : R → Gm → Prop} {E : EX} {g0 : Gm} {o0 : Option O} : rSlU T2 ta tb (o0 :: g0) Q E = (fun (g : Gm) => (ta g (fun r1 g1 => grd r1 T2 (tb g1 (fun r2 g2 => isI r2 fun i => match datu r1 with
  | some d => aSl d none (some i) fun rr => Q rr g2
  | none => False) E)) E : Prop)) (o0 :: g0) := rfl
theorem x_rChain {T2 : List Nat} {op1 op2 : Aop} {ta tb tc : AE} {Q : R → Gm → Prop} {E : EX} {g0 : Gm} {o0 : Option O} : rChain T2 op1 op2 ta tb tc (o0 :: g0) Q E = (fun (g : Gm) => (ta g (fun r1 g1 => grd r1 T2 (tb g1 (fun r2 g2 => match r2 with
  | .p d2 => match datL dat [r1, .p d2] with
    | some ds => op1 ds fun rr => match rr with
      | .p (.bool b) => if b = true then tc g2 (fun r3 g3 => match datL dat [.p d2, r3] with
        | some ds => op2 ds fun rr2 => Q rr2 g3
        | none => False) E else Q (.p (.bool false)) g2
      | _ => False
    | none => False
  | _ => False) E)) E : Prop)) (o0 :: g0) := rfl
theorem x_sNil {N : AN} {g0 : Gm} {o0 : Option O} : sNil  N (o0 :: g0) = (fun (g : Gm) => (N.nx g : Prop)) (o0 :: g0) := rfl
theorem x_sSeq {t u : AS} {N : AN} {g0 : Gm} {o0 : Option O} : sSeq t u N (o0 :: g0) = (fun (g : Gm) => (t (N.seq (u N)) g : Prop)) (o0 :: g0) := rfl
theorem x_sBreak {N : AN} {g0 : Gm} {o0 : Option O} : sBreak  N (o0 :: g0) = (fun (g : Gm) => (N.bk g : Prop)) (o0 :: g0) := rfl
theorem x_sCont {N : AN} {g0 : Gm} {o0 : Option O} : sCont  N (o0 :: g0) = (fun (g : Gm) => (N.ct g : Prop)) (o0 :: g0) := rfl
theorem x_sExpr {te : AE} {N : AN} {g0 : Gm} {o0 : Option O} : sExpr te N (o0 :: g0) = (fun (g : Gm) => (te g (fun _ g1 => N.nx g1) N.ex : Prop)) (o0 :: g0) := rfl
theorem x_sRet {te : AE} {N : AN} {g0 : Gm} {o0 : Option O} : sRet te N (o0 :: g0) = (fun (g : Gm) => (te g (fun r g1 => match r with
  | .p d => N.rt (.p d) g1
  | .ow o => N.rt (.ow o) g1
  | _ => False) N.ex : Prop)) (o0 :: g0) := rfl
theorem x_sRetN {N : AN} {g0 : Gm} {o0 : Option O} : sRetN  N (o0 :: g0) = (fun (g : Gm) => (N.rt (.p .none) g : Prop)) (o0 :: g0) := rfl
theorem x_sIf {c : AT} {t u : AS} {N : AN} {g0 : Gm} {o0 : Option O} : sIf c t u N (o0 :: g0) = (fun (g : Gm) => (c g (fun b g1 => if b = true then t N g1 else u N g1) N.ex : Prop)) (o0 :: g0) := rfl
theorem x_sSet {i : Nat} {te : AE} {N : AN} {g0 : Gm} {o0 : Option O} : sSet i te N (o0 :: g0) = (fun (g : Gm) => (te g (fun r g1 => match own1 r with
  | some o => N.nx (g1.set i (some o))
  | none => False) N.ex : Prop)) (o0 :: g0) := rfl
theorem x_rMv {i : Nat} {Q : R → Gm → Prop} {E0 : EX} {g0 : Gm} {o0 : Option O} : rMv i (o0 :: g0) Q E0 = (fun (g : Gm) => (match g[i]? with
  | some (some (.p d)) => Q (.p d) g
  | some (some o) => Q (.ow o) (g.set i none)
  | _ => False : Prop)) (o0 :: g0) := rfl
theorem x_rFz {i : Nat} {Q : R → Gm → Prop} {E0 : EX} {g0 : Gm} {o0 : Option O} : rFz i (o0 :: g0) Q E0 = (fun (g : Gm) => (match g[i]? with
  | some (some (.p d)) => Q (.p d) g
  | some (some o) => match frz o with
    | some d => Q (.p d) (g.set i (some (.p d)))
    | none => False
  | _ => False : Prop)) (o0 :: g0) := rfl
theorem x_rMt {I : Nat} {T2 : List Nat} {m : Mop} {to : AE} {ta : AA} {Q : R → Gm → Prop} {E : EX} {g0 : Gm} {o0 : Option O} : rMt I T2 m to ta (o0 :: g0) Q E = (fun (g : Gm) => (to g (fun r1 g1 => match vwp r1 with
  | some (i, .ls es0, pl) => i = I ∧ T2.contains i = false ∧ ta g1 (fun rs g2 => match takes rs with
    | some ds => m es0 ds fun d es' => Q (.p d) (g2.set i (some (pl (.ls es'))))
    | none => False) E
  | _ => False) E : Prop)) (o0 :: g0) := rfl
theorem x_rMr {I : Nat} {T2 : List Nat} {m : Mop} {to : AE} {ta : AA} {Q : R → Gm → Prop} {E : EX} {g0 : Gm} {o0 : Option O} : rMr I T2 m to ta (o0 :: g0) Q E = (fun (g : Gm) => (to g (fun r1 g1 => match vwp r1 with
  | some (i, .ls es0, pl) => i = I ∧ T2.contains i = false ∧ ta g1 (fun rs g2 => match datL dat rs with
    | some ds => m es0 ds fun d es' => Q (.p d) (g2.set i (some (pl (.ls es'))))
    | none => False) E
  | _ => False) E : Prop)) (o0 :: g0) := rfl
theorem x_sSetL {I : Nat} {T2 T3 : List Nat} {te to ti : AE} {N : AN} {g0 : Gm} {o0 : Option O} : sSetL I T2 T3 te to ti N (o0 :: g0) = (fun (g : Gm) => (te g (fun r g1 => grd r (T2 ++ T3) (to g1 (fun ro g2 => match vwp ro with
  | some (i, .ls es0, pl) => i = I ∧ T3.contains i = false ∧ ti g2 (fun ri g3 => match takes [r], ri with
    | some [d], .p (.int k) => ∃ j, ixN es0.length k = some j ∧ N.nx (g3.set i (some (pl (.ls (es0.set j d)))))
    | _, _ => False) N.ex
  | _ => False) N.ex)) N.ex : Prop)) (o0 :: g0) := rfl
theorem x_rCall {B C : List Nat} {sp : ASp} {ta : AA} {Q : R → Gm → Prop} {E : EX} {g0 : Gm} {o0 : Option O} : rCall B C sp ta (o0 :: g0) Q E = (fun (g : Gm) => (ta g (fun rs g1 => argsOk B C 0 rs [] = true ∧ sp (rs.map toO) (fun r os' => match r with
  | .p d => Q (.p d) (wb rs os' g1)
  | .ow o => Q (.ow o) (wb rs os' g1)
  | _ => False) (fun c fs os' => E c fs (wb rs os' g1))) E : Prop)) (o0 :: g0) := rfl
theorem x_bName {i : Nat} {d : D} {k : Gm → Prop} {g0 : Gm} {o0 : Option O} : bName i d (o0 :: g0) k = (fun (g : Gm) => (k (g.set i (some (.p d))) : Prop)) (o0 :: g0) := rfl
theorem x_bTup {is : List Nat} {d : D} {k : Gm → Prop} {g0 : Gm} {o0 : Option O} : bTup is d (o0 :: g0) k = (fun (g : Gm) => (match d with
  | .tuple ds => bNames is ds g k
  | _ => False : Prop)) (o0 :: g0) := rfl
theorem x_rSeq {te : AE} {Q : List D → List Nat → Gm → Prop} {E : EX} {g0 : Gm} {o0 : Option O} : rSeq te (o0 :: g0) Q E = (fun (g : Gm) => (te g (fun r g1 => seqM (datu r) fun ds => Q ds (slots1 r) g1) E : Prop)) (o0 :: g0) := rfl
theorem x_rRange1 {ta : AA} {Q : List D → List Nat → Gm → Prop} {E : EX} {g0 : Gm} {o0 : Option O} : rRange1 ta (o0 :: g0) Q E = (fun (g : Gm) => (ta g (fun rs g1 => match datL datu rs with
  | some [.int j] => -(2 ^ 62) ≤ j ∧ j < 2 ^ 62 ∧ Q ((List.range j.toNat).map fun (i : Nat) => .int (0 + i)) [] g1
  | _ => False) E : Prop)) (o0 :: g0) := rfl
theorem x_rRange2 {ta : AA} {Q : List D → List Nat → Gm → Prop} {E : EX} {g0 : Gm} {o0 : Option O} : rRange2 ta (o0 :: g0) Q E = (fun (g : Gm) => (ta g (fun rs g1 => match datL datu rs with
  | some [.int i, .int j] => (-(2 ^ 62) ≤ i ∧ i < 2 ^ 62 ∧ -(2 ^ 62) ≤ j ∧ j < 2 ^ 62) ∧ Q ((List.range (j - i).toNat).map fun (k : Nat) => .int (i + k)) [] g1
  | _ => False) E : Prop)) (o0 :: g0) := rfl
theorem x_sFor {T2 : List Nat} {b : Bd} {ti : AI} {tb : AS} {N : AN} {g0 : Gm} {o0 : Option O} : sFor T2 b ti tb N (o0 :: g0) = (fun (g : Gm) => (ti g (fun ds sl g1 => (sl.all fun j => !T2.contains j) = true ∧ forW b tb N ds g1) N.ex : Prop)) (o0 :: g0) := rfl
theorem x_rLc {T2 vs : List Nat} {b : Bd} {ti : AI} {tt : AT} {te : AE} {Q : R → Gm → Prop} {E : EX} {g0 : Gm} {o0 : Option O} : rLc T2 vs b ti tt te (o0 :: g0) Q E = (fun (g : Gm) => (ti g (fun ds sl g1 => (sl.all fun j => !T2.contains j) = true ∧ lcW vs b tt te (fun acc g2 => Q (.ow (.ls acc)) g2) ds [] (wipeG g1 vs)) E : Prop)) (o0 :: g0) := rfl
theorem x_rYes {Q : Bool → Gm → Prop} {E0 : EX} {g0 : Gm} {o0 : Option O} : rYes  (o0 :: g0) Q E0 = (fun (g : Gm) => (Q true g : Prop)) (o0 :: g0) := rfl
theorem x_rIsi1 {T : String} {te : AE} {Q : R → Gm → Prop} {E : EX} {g0 : Gm} {o0 : Option O} : rIsi1 T te (o0 :: g0) Q E = (fun (g : Gm) => (te g (fun r g1 => match datu r with
  | some d => ∃ b, kitB (tyN d) T = some b ∧ Q (.p (.bool b)) g1
  | none => False) E : Prop)) (o0 :: g0) := rfl
theorem x_rM0 {aop : Aop} {to : AE} {Q : R → Gm → Prop} {E : EX} {g0 : Gm} {o0 : Option O} : rM0 aop to (o0 :: g0) Q E = (fun (g : Gm) => (to g (fun r g1 => match r with
  | .p (.str a) => aop [.str a] fun rr => Q rr g1
  | _ => False) E : Prop)) (o0 :: g0) := rfl
theorem x_rM1 {aop : Aop} {to te : AE} {Q : R → Gm → Prop} {E : EX} {g0 : Gm} {o0 : Option O} : rM1 aop to te (o0 :: g0) Q E = (fun (g : Gm) => (to g (fun r g1 => match r with
  | .p (.str a) => te g1 (fun r2 g2 => match datu r2 with
    | some d => aop [.str a, d] fun rr => Q rr g2
    | none => False) E
  | _ => False) E : Prop)) (o0 :: g0) := rfl
theorem x_aLate {i : Nat} {t2 : AA} {Q : List R → Gm → Prop} {E : EX} {g0 : Gm} {o0 : Option O} : aLate i t2 (o0 :: g0) Q E = (fun (g : Gm) => (match g[i]? with
  | some (some _) => t2 g (fun rs g1 => match g1[i]? with
    | some (some o) => Q (vwO i o :: rs) g1
    | _ => False) E
  | _ => False : Prop)) (o0 :: g0) := rfl
theorem x_sPar {i j : Nat} {ta : AA} {N : AN} {g0 : Gm} {o0 : Option O} : sPar i j ta N (o0 :: g0) = (fun (g : Gm) => (ta g (fun rs g1 => match rs with
  | [r1, r2] => match own1 r1, own1 r2 with
    | some o1, some o2 => N.nx ((g1.set i (some o1)).set j (some o2))
    | _, _ => False
  | _ => False) N.ex : Prop)) (o0 :: g0) := rfl
theorem x_sAug {i : Nat} {f : Int → Int → Int} {te : AE} {N : AN} {g0 : Gm} {o0 : Option O} : sAug i f te N (o0 :: g0) = (fun (g : Gm) => (match g[i]? with
  | some (some (.p (.int a))) => te g (fun r g1 => match r with
    | .p (.int b) => N.nx (g1.set i (some (.p (.int (f a b)))))
    | _ => False) N.ex
  | _ => False : Prop)) (o0 :: g0) := rfl
section
variable {d e : D} {g0 : Gm} {o0 : Option O} {k : R → Prop} {P : Prop} {T : List Nat} {i j : Int} {x y : Str} {xs ys ds : List D} {r : R} {rs : List R} {o : O} {os : List O} {n m : Nat} {B C : List Nat} {b : Bool} {N : AN}
theorem x_tt {α : Sort _} {p q : α} : (if true = true then p else q) = p := rfl
theorem x_ff {α : Sort _} {p q : α} : (if false = true then p else q) = q := rfl
theorem x_bNames0 {kk : Gm → Prop} : bNames [] [] (o0 :: g0) kk = kk (o0 :: g0) := rfl
theorem x_bNames1 {kk : Gm → Prop} {is : List Nat} : bNames (n :: is) (d :: ds) (o0 :: g0) kk = bNames is ds ((o0 :: g0).set n (some (.p d))) kk := rfl
theorem x_lcT {vs : List Nat} {b : Bd} {tt : AT} {te : AE} {acc : List D} {K : List D → Gm → Prop} : lcT vs b tt te d acc (o0 :: g0) K = (b d (o0 :: g0) fun g1 => tt g1 (fun k g2 => if k = true then te g2 (fun r g3 => match take1 r with
    | some d' => acc.length < sizeLine ∧ K (acc ++ [d']) (wipeG g3 vs)
    | none => False) noE else K acc (wipeG g2 vs)) noE) := rfl
theorem x_wipe0 : wipeG (o0 :: g0) [] = o0 :: g0 := rfl
theorem x_wipe1 {vs : List Nat} : wipeG (o0 :: g0) (n :: vs) = (wipeG (o0 :: g0) vs).set n none := rfl
theorem x_endR {k : KO} : endR B os k r (o0 :: g0) = match outs B 0 os (o0 :: g0) with
  | some os' => match r with
    | .p d => k (.p d) os'
    | .ow o => k (.ow o) os'
    | _ => False
  | none => False := rfl
theorem x_endR1 {k : KO} : endR B [] k r [] = match r with
    | .p d => k (.p d) []
    | .ow o => k (.ow o) []
    | _ => False := rfl
theorem x_endX {k : KX} {c : Addr} {fs : List (Str × D)} : endX B os k c fs (o0 :: g0) = match outs B 0 os (o0 :: g0) with
  | some os' => k c fs os'
  | none => False := rfl
theorem x_outs0 : outs B n [] (o0 :: g0) = some [] := rfl
theorem x_outs1 : outs B n (o :: os) (o0 :: g0) = match (if B.contains n = true then (match (o0 :: g0)[n]? with | some (some o') => some o' | _ => none) else some o), outs B (n + 1) os (o0 :: g0) with
    | some o', some os' => some (o' :: os')
    | _, _ => none := rfl
theorem x_AN_of_nx {os : List O} {k : KO} {kx : KX} : (AN.of B os k kx).nx (o0 :: g0) = endR B os k (.p .none) (o0 :: g0) := rfl
theorem x_AN_of_rt {os : List O} {k : KO} {kx : KX} : (AN.of B os k kx).rt = endR B os k := rfl
theorem x_AN_of_ex {os : List O} {k : KO} {kx : KX} : (AN.of B os k kx).ex = endX B os kx := rfl
theorem x_seq_nx {nx : Gm → Prop} : (N.seq nx).nx = nx := rfl
theorem x_seq_rt {nx : Gm → Prop} : (N.seq nx).rt = N.rt := rfl
theorem x_seq_bk {nx : Gm → Prop} : (N.seq nx).bk = N.bk := rfl
theorem x_seq_ct {nx : Gm → Prop} : (N.seq nx).ct = N.ct := rfl
theorem x_seq_ex {nx : Gm → Prop} : (N.seq nx).ex = N.ex := rfl
theorem x_loop_nx {nx : Gm → Prop} : (N.loop nx).nx = nx := rfl
theorem x_loop_rt {nx : Gm → Prop} : (N.loop nx).rt = N.rt := rfl
theorem x_loop_bk {nx : Gm → Prop} : (N.loop nx).bk = N.nx := rfl
theorem x_loop_ct {nx : Gm → Prop} : (N.loop nx).ct = nx := rfl
theorem x_loop_ex {nx : Gm → Prop} : (N.loop nx).ex = N.ex := rfl
theorem x_grd_p : grd (.p d) T P = P := rfl
theorem x_grd_ow : grd (.ow o) T P = P := rfl
theorem x_grd_sl : grd (.sl n o) T P = (T.contains n = false ∧ P) := rfl
theorem x_grd_vw {pl : O → O} : grd (.vw n o pl) T P = (T.contains n = false ∧ P) := rfl
theorem x_vwO_p : vwO n (.p d) = .p d := rfl
theorem x_vwO_ls : vwO n (.ls ds) = .sl n (.ls ds) := rfl
theorem x_vwO_lo : vwO n (.lo os) = .sl n (.lo os) := rfl
theorem x_vwO_dc {es : List (Key × D)} : vwO n (.dc es) = .sl n (.dc es) := rfl
theorem x_vwO_dco {es : List (Key × O)} : vwO n (.dco es) = .sl n (.dco es) := rfl
theorem x_vwO_ins {c : Addr} {es : List (Str × O)} : vwO n (.ins c es) = .sl n (.ins c es) := rfl
theorem x_vwO_fl {ns : List Int} : vwO n (.fl ns) = .sl n (.fl ns) := rfl
theorem x_datL0 {da : R → Option D} : datL da [] = some [] := rfl
theorem x_datL1 {da : R → Option D} : datL da (r :: rs) = match da r, datL da rs with
    | some d, some ds => some (d :: ds)
    | _, _ => none := rfl
theorem x_dat_p : dat (.p d) = some d := rfl
theorem x_dat_sl : dat (.sl n o) = sh o := rfl
theorem x_dat_vw {pl : O → O} : dat (.vw n o pl) = sh o := rfl
theorem x_dat_ow : dat (.ow o) = sh o := rfl
theorem x_sh_p : sh (.p d) = some d := rfl
theorem x_sh_ls : sh (.ls ds) = some (.list ds) := rfl
theorem x_sh_dc {es : List (Key × D)} : sh (.dc es) = some (.dict (es.map fun q => (kP q.1, q.2))) := rfl
theorem x_datu_p : datu (.p d) = some d := rfl
theorem x_datu_ls : datu (.sl n (.ls ds)) = some (.list ds) := rfl
theorem x_datu_dc {es : List (Key × D)} : datu (.sl n (.dc es)) = some (.dict (es.map fun q => (kP q.1, q.2))) := rfl
theorem x_datu_fl {ns : List Int} : datu (.sl n (.fl ns)) = some (.list (ns.map .int)) := rfl
theorem x_datu_vw {pl : O → O} : datu (.vw n o pl) = sh o := rfl
theorem x_datu_ow : datu (.ow o) = sh o := rfl
theorem x_takes0 : takes [] = some [] := rfl
theorem x_takes_p : takes (.p d :: rs) = (takes rs).map (d :: ·) := rfl
theorem x_takes_ow : takes (.ow o :: rs) = match frz o, takes rs with
    | some d, some ds => some (d :: ds)
    | _, _ => none := rfl
theorem x_map_some {α β : Type} {f : α → β} {a : α} : (some a).map f = some (f a) := rfl
theorem x_frz_p : frz (.p d) = some d := rfl
theorem x_frz_ls : frz (.ls ds) = some (.list ds) := rfl
theorem x_frz_dc {es : List (Key × D)} : frz (.dc es) = some (.dict (es.map fun q => (kP q.1, q.2))) := rfl
theorem x_take1_p : take1 (.p d) = some d := rfl
theorem x_take1_ow : take1 (.ow o) = frz o := rfl
theorem x_own1_p : own1 (.p d) = some (.p d) := rfl
theorem x_own1_ow : own1 (.ow o) = some o := rfl
theorem x_slots_p : slots1 (.p d) = [] := rfl
theorem x_slots_sl : slots1 (.sl n o) = [n] := rfl
theorem x_slots_ow : slots1 (.ow o) = [] := rfl
theorem x_vwp_sl : vwp (.sl n o) = some (n, o, id) := rfl
theorem x_vwp_vw {pl : O → O} : vwp (.vw n o pl) = some (n, o, pl) := rfl
theorem x_toO_p : toO (.p d) = .p d := rfl
theorem x_toO_sl : toO (.sl n o) = o := rfl
theorem x_toO_ow : toO (.ow o) = o := rfl
theorem x_wb_sl {g : Gm} : wb (.sl n o0' :: rs) (o :: os) g = wb rs os (g.set n (some o)) := rfl
theorem x_wb_p {g : Gm} : wb (.p d :: rs) (o :: os) g = wb rs os g := rfl
theorem x_wb_ow {o' : O} {g : Gm} : wb (.ow o' :: rs) (o :: os) g = wb rs os g := rfl
theorem x_wb0 {g : Gm} {os : List O} : wb [] os g = g := by cases os <;> rfl
theorem x_wb00 {g : Gm} : wb [] [] g = g := rfl
theorem x_seqM_list {Q : List D → Prop} : seqM (some (.list ds)) Q = Q ds := rfl
theorem x_seqM_tuple {Q : List D → Prop} : seqM (some (.tuple ds)) Q = Q ds := rfl
theorem x_seqM_str {Q : List D → Prop} : seqM (some (.str x)) Q = Q (x.cps.toList.map fun c => .str ⟨#[c]⟩) := rfl
theorem x_isI {k : Int → Prop} : isI (.p (.int i)) k = k i := rfl
/-! operations -/
theorem x_all : aAll [.list ds] k = ∃ bs, blsOf ds = some bs ∧ k (.p (.bool (bs.all id))) := rfl
theorem x_any : aAny [.list ds] k = ∃ bs, blsOf ds = some bs ∧ k (.p (.bool (bs.any id))) := rfl
theorem x_join_l : aJoin [.str x, .list ds] k = ∃ ys, strsOf ds = some ys ∧ (ys.map (·.length)).sum + ys.length * x.length ≤ 16777216 ∧ k (.p (.str (Txt.join x ys))) := rfl
theorem x_join_t : aJoin [.str x, .tuple ds] k = ∃ ys, strsOf ds = some ys ∧ (ys.map (·.length)).sum + ys.length * x.length ≤ 16777216 ∧ k (.p (.str (Txt.join x ys))) := rfl
theorem x_add_i : aAdd [.int i, .int j] k = k (.p (.int (i + j))) := rfl
theorem x_add_s : aAdd [.str x, .str y] k = (x.length + y.length ≤ sizeLine ∧ k (.p (.str (x ++ y)))) := rfl
theorem x_add_l : aAdd [.list xs, .list ys] k = (xs.length + ys.length ≤ sizeLine ∧ k (.ow (.ls (xs ++ ys)))) := rfl
theorem x_add_t : aAdd [.tuple xs, .tuple ys] k = (xs.length + ys.length ≤ sizeLine ∧ k (.p (.tuple (xs ++ ys)))) := rfl
theorem x_sub : aSub [.int i, .int j] k = k (.p (.int (i - j))) := rfl
theorem x_mod : aMod [.int i, .int j] k = (0 < j ∧ k (.p (.int (i % j)))) := rfl
theorem x_div : aDiv [.int i, .int j] k = (CDiv i j ∧ k (.p (.int (i / j)))) := rfl
theorem x_pow : aPow [.int i, .int j] k = (CPow i j ∧ k (.p (.int (i ^ j.toNat)))) := rfl
theorem x_mul_i : aMulX [.int i, .int j] k = (CMul i j ∧ k (.p (.int (i * j)))) := rfl
theorem x_mul_s : aMulX [.str x, .int j] k = (MulOk x j ∧ k (.p (.str (Txt.mul x j)))) := rfl
theorem x_neg : aNeg [.int i] k = k (.p (.int (-i))) := rfl
theorem x_cmp {f : Int → Int → Bool} : aCmpI f [.int i, .int j] k = k (.p (.bool (f i j))) := rfl
theorem x_eq {f : Bool → Bool} : aEq f [d, e] k = eqD2 d e fun b => k (.p (.bool (f b))) := rfl
theorem x_eq_s {k : Bool → Prop} : eqD2 (.str x) (.str y) k = k (decide (x = y)) := rfl
theorem x_eq_i {k : Bool → Prop} : eqD2 (.int i) (.int j) k = k (decide (i = j)) := rfl
theorem x_eq_b {k : Bool → Prop} {a b : Bool} : eqD2 (.bool a) (.bool b) k = k (decide (a = b)) := rfl
theorem x_eq_n {k : Bool → Prop} : eqD2 .none .none k = k true := rfl
theorem x_eq_ns {k : Bool → Prop} : eqD2 .none (.str x) k = k false := rfl
theorem x_eq_sn {k : Bool → Prop} : eqD2 (.str x) .none k = k false := rfl
theorem x_eq_is {k : Bool → Prop} : eqD2 (.int i) (.str x) k = k false := rfl
theorem x_eq_si {k : Bool → Prop} : eqD2 (.str x) (.int i) k = k false := rfl
theorem x_eq_ll {k : Bool → Prop} : eqD2 (.list xs) (.list ys) k = (okD (.list xs) = true ∧ okD (.list ys) = true ∧ k (PyData.eqv (.list xs) (.list ys))) := rfl
theorem x_eq_t2 {k : Bool → Prop} : eqD2 (.tuple xs) (.tuple ys) k = (okD (.tuple xs) = true ∧ okD (.tuple ys) = true ∧ k (PyData.eqv (.tuple xs) (.tuple ys))) := rfl
theorem x_isN_n {f : Bool → Bool} : aIsN f [.none, .none] k = k (.p (.bool (f true))) := rfl
theorem x_isN_i {f : Bool → Bool} : aIsN f [.int i, .none] k = k (.p (.bool (f false))) := rfl
theorem x_isN_s {f : Bool → Bool} : aIsN f [.str x, .none] k = k (.p (.bool (f false))) := rfl
theorem x_isN_l {f : Bool → Bool} : aIsN f [.list xs, .none] k = k (.p (.bool (f false))) := rfl
theorem x_isN_t {f : Bool → Bool} : aIsN f [.tuple xs, .none] k = k (.p (.bool (f false))) := rfl
theorem x_in_s {f : Bool → Bool} : aIn f [.str x, .str y] k = (x.length = 1 ∧ k (.p (.bool (f (decide (x.cps.getD 0 0 ∈ y.cps.toList)))))) := rfl
theorem x_in_sl {f : Bool → Bool} : aIn f [.str x, .list ds] k = (inOk (.str x) ds = true ∧ k (.p (.bool (f (ds.any fun z => PyData.eqv z (.str x)))))) := rfl
theorem x_in_il {f : Bool → Bool} : aIn f [.int i, .list ds] k = (inOk (.int i) ds = true ∧ k (.p (.bool (f (ds.any fun z => PyData.eqv z (.int i)))))) := rfl
theorem x_in_tl {f : Bool → Bool} : aIn f [.tuple xs, .list ds] k = (inOk (.tuple xs) ds = true ∧ k (.p (.bool (f (ds.any fun z => PyData.eqv z (.tuple xs)))))) := rfl
theorem x_in_st {f : Bool → Bool} : aIn f [.str x, .tuple ds] k = (isFlat (.str x) = true ∧ ds.all isFlat = true ∧ k (.p (.bool (f (ds.any fun z => PyData.eqv z (.str x)))))) := rfl
theorem x_in_it {f : Bool → Bool} : aIn f [.int i, .tuple ds] k = (isFlat (.int i) = true ∧ ds.all isFlat = true ∧ k (.p (.bool (f (ds.any fun z => PyData.eqv z (.int i)))))) := rfl
theorem x_len_s : aLen [.str x] k = (x.length ≤ sizeLine ∧ k (.p (.int x.length))) := rfl
theorem x_len_l : aLen [.list xs] k = k (.p (.int xs.length)) := rfl
theorem x_len_t : aLen [.tuple xs] k = k (.p (.int xs.length)) := rfl
theorem x_ix_l : aIx [.list xs, .int i] k = ∃ d, L2.atI xs i = some d ∧ k (.p d) := rfl
theorem x_ix_t : aIx [.tuple xs, .int i] k = ∃ d, L2.atI xs i = some d ∧ k (.p d) := rfl
theorem x_ix_s : aIx [.str x, .int i] k = (x.length ≤ sizeLine ∧ ∃ c, L2.atI x.cps.toList i = some c ∧ k (.p (.str ⟨#[c]⟩))) := rfl
theorem x_tup : aTup ds k = (ds.length ≤ sizeLine ∧ k (.p (.tuple ds))) := rfl
theorem x_lst : aLst ds k = (ds.length ≤ sizeLine ∧ k (.ow (.ls ds))) := rfl
theorem x_sl_s {lo hi : Option Int} : aSl (.str x) lo hi k = (x.length ≤ sizeLine ∧ k (.p (.str (cutS x lo hi)))) := rfl
theorem x_sl_l {lo hi : Option Int} : aSl (.list xs) lo hi k = k (.ow (.ls (VL.cutD xs lo hi))) := rfl
theorem x_sl_t {lo hi : Option Int} : aSl (.tuple xs) lo hi k = k (.p (.tuple (VL.cutD xs lo hi))) := rfl
theorem x_append {es : List D} {k : D → List D → Prop} : mAppend es [d] k = (es.length < sizeLine ∧ k .none (es ++ [d])) := rfl
theorem x_extend {es : List D} {k : D → List D → Prop} : mExtend es [.list xs] k = (es.length + xs.length ≤ sizeLine ∧ k .none (es ++ xs)) := rfl
theorem x_max_i : aMaxX [.int i, .int j] k = k (.p (.int (if j > i then j else i))) := rfl
theorem x_max_l : aMaxX [.list ds] k = ∃ ns, intsOf ds = some ns ∧ 0 < ns.length ∧ ∀ m, m ∈ ns → (∀ y, y ∈ ns → y ≤ m) → k (.p (.int m)) := rfl
theorem x_min : aMin [.int i, .int j] k = k (.p (.int (if j < i then j else i))) := rfl
theorem x_int_i : aInt [.int i] k = k (.p (.int i)) := rfl
theorem x_int_b {b : Bool} : aInt [.bool b] k = k (.p (.int (if b then 1 else 0))) := rfl
theorem x_listOf_l : aListOf [.list xs] k = k (.ow (.ls xs)) := rfl
theorem x_listOf_t : aListOf [.tuple xs] k = k (.ow (.ls xs)) := rfl
theorem x_tupOf_l : aTupOf [.list xs] k = k (.p (.tuple xs)) := rfl
theorem x_tupOf_t : aTupOf [.tuple xs] k = k (.p (.tuple xs)) := rfl
theorem x_repr_i : aRepr [.int i] k = (i.natAbs.log2 < 1920 ∧ k (.p (.str (toString i)))) := rfl
theorem x_repr_l : aRepr [.list ds] k = (okS (.list ds) = true ∧ (PyData.list ds).shown.length ≤ sizeLine ∧ k (.p (.str (PyData.list ds).shown))) := rfl
theorem x_repr_t : aRepr [.tuple ds] k = (okS (.tuple ds) = true ∧ (PyData.tuple ds).shown.length ≤ sizeLine ∧ k (.p (.str (PyData.tuple ds).shown))) := rfl
theorem x_map0 {α β : Type} {f : α → β} : ([] : List α).map f = [] := rfl
theorem x_map1 {α β : Type} {f : α → β} {a : α} {l : List α} : (a :: l).map f = f a :: l.map f := rfl
theorem x_app0 {α : Type} {l : List α} : [] ++ l = l := rfl
theorem x_app1 {α : Type} {a : α} {l l2 : List α} : (a :: l) ++ l2 = a :: (l ++ l2) := rfl
theorem x_set0 {α : Type} {a b : α} {l : List α} : (a :: l).set 0 b = b :: l := rfl
theorem x_setS {α : Type} {a b : α} {l : List α} : (a :: l).set (n + 1) b = a :: l.set n b := rfl
theorem x_get0 {α : Type} {a : α} {l : List α} : (a :: l)[0]? = some a := rfl
theorem x_getS {α : Type} {a : α} {l : List α} : (a :: l)[n + 1]? = l[n]? := rfl
end
theorem x_Tr_num {i : Int} : (Tr.num i).d = .tuple [.str "num", .int i] := rfl
theorem x_Tr_cel {s : Str} : (Tr.cel s).d = .tuple [.str "cell", .str s] := rfl
theorem x_Tr_inn {i : Int} : (Tr.inn i).d = .tuple [.str "in", .int i] := rfl
theorem x_Tr_op {c : Nat} {a b : Tr} : (Tr.op c a b).d = .tuple [.str "op", .str (sg c), a.d, b.d] := rfl
theorem x_forW0 {bd : Bd} {tb : AS} : forW bd tb N [] (o0 :: g0) = N.nx (o0 :: g0) := rfl
theorem x_forW1 {bd : Bd} {tb : AS} : forW bd tb N (d :: ds) (o0 :: g0) = (bd d (o0 :: g0) fun g1 => tb (N.loop (forW bd tb N ds)) g1) := rfl
theorem x_lcW0 {vs : List Nat} {bd : Bd} {tt : AT} {te : AE} {Q : List D → Gm → Prop} {acc : List D} : lcW vs bd tt te Q [] acc (o0 :: g0) = Q acc (o0 :: g0) := rfl
theorem x_lcW1 {vs : List Nat} {bd : Bd} {tt : AT} {te : AE} {Q : List D → Gm → Prop} {acc : List D} : lcW vs bd tt te Q (d :: ds) acc (o0 :: g0) = lcT vs bd tt te d acc (o0 :: g0) (lcW vs bd tt te Q ds) := rfl
theorem x_drop1 {α : Type} {a : α} {l : List α} : (a :: l).drop (n + 1) = l.drop n := rfl
theorem x_drop0 {α : Type} {l : List α} : l.drop 0 = l := rfl
theorem x_dropn {α : Type} : ([] : List α).drop (n + 1) = [] := rfl
theorem x_take1s {α : Type} {a : α} {l : List α} : (a :: l).take (n + 1) = a :: l.take n := rfl
theorem x_take0 {α : Type} {l : List α} : l.take 0 = [] := rfl
theorem x_taken {α : Type} : ([] : List α).take (n + 1) = [] := rfl
theorem x_ty_l : tyN (.list ds) = "list" := rfl
theorem x_ty_t : tyN (.tuple ds) = "tuple" := rfl
theorem x_ty_i : tyN (.int i) = "int" := rfl
theorem x_ty_b {b : Bool} : tyN (.bool b) = "bool" := rfl
theorem x_ty_s : tyN (.str x) = "str" := rfl
theorem x_ty_d {es : List (D × D)} : tyN (.dict es) = "dict" := rfl
theorem kit_ll : kitB "list" "list" = some true := by decide +kernel
theorem kit_tt : kitB "tuple" "tuple" = some true := by decide +kernel
theorem kit_dd : kitB "dict" "dict" = some true := by decide +kernel
theorem kit_ii : kitB "int" "int" = some true := by decide +kernel
theorem kit_ss : kitB "str" "str" = some true := by decide +kernel
theorem kit_ib : kitB "int" "bool" = some false := by decide +kernel
theorem kit_bi : kitB "bool" "int" = some true := by decide +kernel
theorem log_ok {i : Int} (h0 : -1000000000000 < i) (h : i < 1000000000000) : i.natAbs.log2 < 1920 := by
  by_cases z : i.natAbs = 0
  · rw [z]; decide
  · exact Nat.lt_of_lt_of_le ((Nat.log2_lt z).mpr (Nat.lt_of_lt_of_le (by omega : i.natAbs < 10 ^ 12) (by decide : 10 ^ 12 ≤ 2 ^ 40))) (by decide)
theorem ints_map {α : Type} {f : α → Int} : ∀ {l : List α}, intsOf (l.map fun a => PyData.int (f a)) = some (l.map f)
  | [] => rfl
  | a :: l => by
    show (intsOf (l.map fun a => PyData.int (f a))).map (f a :: ·) = _
    rw [ints_map]; rfl
/-! places that are stored -/
theorem px_0 {K : Nat → Prop} {n : Nat} (h : 0 < n) (k : K 0) : ∃ j, L2.ixN n 0 = some j ∧ K j := ⟨0, by unfold L2.ixN; rw [if_pos (by decide), if_pos (by omega)]; rfl, k⟩
theorem px_1 {K : Nat → Prop} {n : Nat} (h : 1 < n) (k : K 1) : ∃ j, L2.ixN n 1 = some j ∧ K j := ⟨1, by unfold L2.ixN; rw [if_pos (by decide), if_pos (by omega)]; rfl, k⟩
theorem px_2 {K : Nat → Prop} {n : Nat} (h : 2 < n) (k : K 2) : ∃ j, L2.ixN n 2 = some j ∧ K j := ⟨2, by unfold L2.ixN; rw [if_pos (by decide), if_pos (by omega)]; rfl, k⟩
theorem px_3 {K : Nat → Prop} {n : Nat} (h : 3 < n) (k : K 3) : ∃ j, L2.ixN n 3 = some j ∧ K j := ⟨3, by unfold L2.ixN; rw [if_pos (by decide), if_pos (by omega)]; rfl, k⟩
theorem px_m1 {K : Nat → Prop} {n : Nat} (h : 1 ≤ n) (k : K (n - 1)) : ∃ j, L2.ixN n (-1) = some j ∧ K j := by
  refine ⟨n - 1, ?_, k⟩
  unfold L2.ixN
  rw [if_neg (by decide), if_pos (by omega)]
  rw [show (-1 + (n : Int)).toNat = n - 1 by omega]
theorem px_i {K : Nat → Prop} {n : Nat} {i : Int} (h0 : 0 ≤ i) (h : i < n) (k : K i.toNat) : ∃ j, L2.ixN n i = some j ∧ K j := by
  refine ⟨i.toNat, ?_, k⟩
  unfold L2.ixN
  rw [if_pos h0, if_pos h]
/-! slices by written numbers -/
theorem cutD_lo {α : Type} {xs : List α} {k : Nat} : VL.cutD xs (some (k : Int)) none = xs.drop k := by
  unfold VL.cutD
  rw [HT.sIx_none, HT.sIx_nat]
  by_cases h : k ≤ xs.length
  · rw [Nat.min_eq_left h]
    rw [List.take_of_length_le (by rw [List.length_drop]; exact Nat.le_refl _)]
  · rw [Nat.min_eq_right (by omega), List.drop_eq_nil_of_le (Nat.le_refl _), List.drop_eq_nil_of_le (by omega)]
    simp
theorem cutD_hi {α : Type} {xs : List α} {k : Nat} : VL.cutD xs none (some (k : Int)) = xs.take k := by
  unfold VL.cutD
  rw [HT.sIx_none, HT.sIx_nat, List.drop_zero, Nat.sub_zero]
  by_cases h : k ≤ xs.length
  · rw [Nat.min_eq_left h]
  · rw [Nat.min_eq_right (by omega), List.take_of_length_le (Nat.le_refl _), List.take_of_length_le (by omega)]
theorem cut_lo1 {α : Type} {xs : List α} : VL.cutD xs (some 1) none = xs.drop 1 := cutD_lo (k := 1)
theorem cut_hi1 {α : Type} {xs : List α} : VL.cutD xs none (some 1) = xs.take 1 := cutD_hi (k := 1)
theorem cut_lo2 {α : Type} {xs : List α} : VL.cutD xs (some 2) none = xs.drop 2 := cutD_lo (k := 2)
theorem cut_hi2 {α : Type} {xs : List α} : VL.cutD xs none (some 2) = xs.take 2 := cutD_hi (k := 2)
theorem cut_lo3 {α : Type} {xs : List α} : VL.cutD xs (some 3) none = xs.drop 3 := cutD_lo (k := 3)
theorem cut_hi3 {α : Type} {xs : List α} : VL.cutD xs none (some 3) = xs.take 3 := cutD_hi (k := 3)
theorem cut_lo4 {α : Type} {xs : List α} : VL.cutD xs (some 4) none = xs.drop 4 := cutD_lo (k := 4)
theorem cut_hi4 {α : Type} {xs : List α} : VL.cutD xs none (some 4) = xs.take 4 := cutD_hi (k := 4)
theorem cut_lo5 {α : Type} {xs : List α} : VL.cutD xs (some 5) none = xs.drop 5 := cutD_lo (k := 5)
theorem cut_hi5 {α : Type} {xs : List α} : VL.cutD xs none (some 5) = xs.take 5 := cutD_hi (k := 5)
theorem cut_lo6 {α : Type} {xs : List α} : VL.cutD xs (some 6) none = xs.drop 6 := cutD_lo (k := 6)
theorem cut_hi6 {α : Type} {xs : List α} : VL.cutD xs none (some 6) = xs.take 6 := cutD_hi (k := 6)
end VL

namespace VL
open PySem PySem.Spec PyProof.Rows L2

/-! ### 42. Dicts: what stands at their keys -/
section
variable {κ β : Type} [DecidableEq κ]
def valG (kvs : List (κ × β)) (k : κ) : Option β := (kvs.find? fun kv => decide (kv.1 = k)).map (·.2)
def putG (kvs : List (κ × β)) (k : κ) (v : β) : List (κ × β) := if (kvs.any fun kv => decide (kv.1 = k)) = true then kvs.map (fun kv => if kv.1 = k then (kv.1, v) else kv) else kvs ++ [(k, v)]
def mergeG (kvs more : List (κ × β)) : List (κ × β) := more.foldl (fun acc kv => putG acc kv.1 kv.2) kvs
end
def kD : D → Option Key
  | .int i => some (.inl i)
  | .str x => some (.inr x)
  | _ => none
def valD (es : List (D × D)) (k : Key) : Option D := (es.find? fun q => decide (kD q.1 = some k)).map (·.2)
theorem kD_kP (k : Key) : kD (kP k) = some k := by cases k <;> rfl
theorem valD_pos {c d : D} {es : List (D × D)} {k : Key} (h : kD c = some k) : valD ((c, d) :: es) k = some d := by simp [valD, List.find?_cons, h]
theorem valD_neg {c d : D} {es : List (D × D)} {k : Key} (h : ¬ kD c = some k) : valD ((c, d) :: es) k = valD es k := by simp [valD, List.find?_cons, h]
section
variable {K : PySem.W.Frag} {Z Z1 : ZS} {H H1 : Hp}
theorem valD_of : ∀ {kvs : List (Key × V)} {es : List (D × D)}, es.map (·.1) = kvs.map (fun q => kP q.1) → PDs K Z H (kvs.map (·.2)) (es.map (·.2)) → ∀ k : Key,
    (∀ d, valD es k = some d → ∃ v, valV kvs k = some v ∧ PD K Z H v d) ∧ (valD es k = none → valV kvs k = none)
  | [], [], _, _, k => ⟨fun d e => (by cases e), fun _ => rfl⟩
  | [], _ :: _, e, _, _ => by cases e
  | _ :: _, [], e, _, _ => by cases e
  | (k0, v0) :: kvs, (c, d0) :: es, e, r, k => by
    simp only [List.map_cons, List.cons.injEq] at e
    obtain ⟨e1, e2⟩ := e
    simp only [List.map_cons] at r
    cases r with
    | cons h r =>
      have ih := valD_of e2 r k
      by_cases q : k0 = k
      · have q1 : kD c = some k := by rw [e1, kD_kP, q]
        rw [valD_pos q1, valV_pos (p := (k0, v0)) q]
        exact ⟨fun d z => ⟨v0, rfl, by cases z; exact h⟩, fun z => by cases z⟩
      · have q1 : ¬ kD c = some k := by rw [e1, kD_kP]; exact fun z => q (Option.some.inj z)
        rw [valD_neg q1, valV_neg (p := (k0, v0)) q]
        exact ih
theorem kV_of {v : V} {d : D} {k : Key} (h : PDu K Z H v d) (e : kD d = some k) : v = kV k := by
  cases d with
  | int i => cases e; exact h.int_i
  | str x => cases e; exact h.str_i
  | none => cases e
  | bool _ => cases e
  | list _ => cases e
  | tuple _ => cases e
  | dict _ => cases e
theorem any_keys {β γ : Type} {k : Key} : ∀ {as : List (Key × β)} {bs : List (Key × γ)}, as.map (·.1) = bs.map (·.1) → (as.any fun kv => decide (kv.1 = k)) = bs.any fun kv => decide (kv.1 = k)
  | [], [], _ => rfl
  | [], _ :: _, e => by cases e
  | _ :: _, [], e => by cases e
  | a :: as, b :: bs, e => by
    simp only [List.map_cons, List.cons.injEq] at e
    rw [List.any_cons, List.any_cons, any_keys e.2, e.1]
theorem put_keys {β γ : Type} {k : Key} {v : β} {u : γ} : ∀ {as : List (Key × β)} {bs : List (Key × γ)}, as.map (·.1) = bs.map (·.1) →
    (as.map fun kv => if kv.1 = k then (kv.1, v) else kv).map (·.1) = (bs.map fun kv => if kv.1 = k then (kv.1, u) else kv).map (·.1)
  | [], [], _ => rfl
  | [], _ :: _, e => by cases e
  | _ :: _, [], e => by cases e
  | a :: as, b :: bs, e => by
    simp only [List.map_cons, List.cons.injEq] at e
    simp only [List.map_cons]
    rw [put_keys e.2]
    congr 1
    by_cases q : b.1 = k
    · rw [if_pos q, if_pos (e.1.trans q)]; exact e.1
    · rw [if_neg q, if_neg (fun z => q (e.1.symm.trans z))]; exact e.1
theorem put_vals {k : Key} {v : V} {d : D} (h : PD K Z H v d) : ∀ {kvs : List (Key × V)} {es : List (Key × D)}, es.map (·.1) = kvs.map (·.1) → PDs K Z H (kvs.map (·.2)) (es.map (·.2)) →
    PDs K Z H ((kvs.map fun kv => if kv.1 = k then (kv.1, v) else kv).map (·.2)) ((es.map fun kv => if kv.1 = k then (kv.1, d) else kv).map (·.2))
  | [], [], _, _ => .nil
  | [], _ :: _, e, _ => by cases e
  | _ :: _, [], e, _ => by cases e
  | a :: as, b :: bs, e, r => by
    simp only [List.map_cons, List.cons.injEq] at e
    simp only [List.map_cons] at r ⊢
    cases r with
    | cons h1 r =>
      by_cases q : a.1 = k
      · rw [if_pos q, if_pos (e.1.trans q)]
        exact .cons h (put_vals h e.2 r)
      · rw [if_neg q, if_neg (fun z => q (e.1.symm.trans z))]
        exact .cons h1 (put_vals h e.2 r)
theorem put_rel {kvs : List (Key × V)} {es : List (Key × D)} {k : Key} {v : V} {d : D} (e : es.map (·.1) = kvs.map (·.1)) (r : PDs K Z H (kvs.map (·.2)) (es.map (·.2))) (h : PD K Z H v d) :
    (putG es k d).map (·.1) = (putK kvs k v).map (·.1) ∧ PDs K Z H ((putK kvs k v).map (·.2)) ((putG es k d).map (·.2)) := by
  unfold putG putK
  rw [any_keys e]
  split
  · exact ⟨put_keys e, put_vals h e r⟩
  · simp only [List.map_append, List.map_cons, List.map_nil]
    exact ⟨by rw [e], r.append (.cons h .nil)⟩
theorem merge_rel : ∀ {m : List (Key × V)} {ms : List (Key × D)} {kvs : List (Key × V)} {es : List (Key × D)}, es.map (·.1) = kvs.map (·.1) → PDs K Z H (kvs.map (·.2)) (es.map (·.2)) → ms.map (·.1) = m.map (·.1) → PDs K Z H (m.map (·.2)) (ms.map (·.2)) →
    (mergeG es ms).map (·.1) = (mergeK kvs m).map (·.1) ∧ PDs K Z H ((mergeK kvs m).map (·.2)) ((mergeG es ms).map (·.2))
  | [], [], _, _, e, r, _, _ => ⟨e, r⟩
  | [], _ :: _, _, _, _, _, e, _ => by cases e
  | _ :: _, [], _, _, _, _, e, _ => by cases e
  | a :: as, b :: bs, kvs, es, e, r, e2, r2 => by
    simp only [List.map_cons, List.cons.injEq] at e2
    simp only [List.map_cons] at r2
    cases r2 with
    | cons h r2 =>
      obtain ⟨p1, p2⟩ := put_rel (k := a.1) e r h
      have e3 : b.1 = a.1 := e2.1
      unfold mergeG mergeK
      rw [List.foldl_cons, List.foldl_cons, e3]
      exact merge_rel p1 p2 e2.2 r2
theorem put_len {κ β : Type} [DecidableEq κ] {kvs : List (κ × β)} {k : κ} {v : β} : (putG kvs k v).length ≤ kvs.length + 1 := by
  unfold putG
  split
  · rw [List.length_map]; omega
  · rw [List.length_append]; exact Nat.le_refl _
end

/-! ### 43. d[k], k in d, len(d) -/
def rDGt : R2 := fun x y H Q => ∃ a v, x = .ref a ∧ DGet H a y (some v) ∧ Q v H
theorem ix_dget {X : Cx} (hu : X.A.units + 1 < cLine) : IxR X rDGt := by
  intro value slice pins s σ H x y v u Q I rx ry h hs
  obtain ⟨a, z, rfl, g, q⟩ := h
  cases rx
  have hT := dict_typeIs I g
  unfold subscriptTail
  refine wpAny_bind ?_
  rw [getitemInPython_of_ne hT.not_modules]
  refine wpAny_bind (wpAny_specialOf hT PySem.F.slot_dict_getitem.lookup ?_)
  have fin : wpAny (model X.prog X.w) X.A (subscripted slice false (.ref a) u) (fun r s₃ => wpAny (model X.prog X.w) X.A (letTemporaryGo value (.ref a) r >>= fun _ => pure r) (EP X pins σ Q) X.xe s₃) X.xe s := by
    rw [hs]
    exact wpAny_operating (wpAny_mono (d_getItem (Q := EP X pins σ Q) hu I g ry fun w' s3 I3 rw' => ⟨z, H, I3, rw', q⟩) (fun r s₃ h₃ => wpAny_bind (wpAny_letTemporaryGo (wpAny_pure h₃))) fun _ _ x => x)
  first
    | exact wpAny_pure (wpAny_bind fin)
    | exact wpAny_bind (wpAny_pure (wpAny_bind fin))
    | exact wpAny_bind fin
def rIxX (K : PySem.W.Frag) : R2 := fun x y H Q => rIx K x y H Q ∨ rDGt x y H Q
theorem ix_X {X : Cx} (hu : X.A.units + 1 < cLine) : IxR X (rIxX X.K) := ix_seq.or (ix_dget hu)
def aIxX : Aop
  | [.dict es, y], k => match kD y with
    | some q => ∃ d, valD es q = some d ∧ k (.p d)
    | none => False
  | ds, k => aIx ds k
theorem ok_ixX {K : PySem.W.Frag} : POu K (tw (rIxX K)) aIxX := by
  intro Z H vs ds k Q zl h2 h ret
  unfold aIxX at h
  split at h
  · split at h
    · rename_i es y q ek
      obtain ⟨d, ed, hk⟩ := h
      obtain ⟨x, z, rfl, ⟨a, kvs, rfl, hx, e, r⟩, hy⟩ := all2_2 h2
      obtain ⟨v, ev, pv⟩ := (valD_of e r q).1 d ed
      rw [kV_of hy ek]
      exact ⟨_, _, rfl, .inr ⟨a, v, rfl, by rw [← ev]; exact DGet.k hx, ret _ _ Z H [] hk (Ext.refl zl) (.p pv)⟩⟩
    · exact h.elim
  · obtain ⟨x, y, e, z⟩ := ok_ix Z H vs ds k Q zl h2 h ret
    exact ⟨x, y, e, .inl z⟩
def rDIn (f : Bool → Bool) : R2 := fun y x H Q => ∃ a o, x = .ref a ∧ DGet H a y o ∧ Q (.bl (f o.isSome)) H
theorem op_inDi {X : Cx} (hu : X.A.units + 1 < cLine) : OpR X (compareOp .In) (rDIn id) := by
  intro pins s σ H x y v u Q I rx ry h
  obtain ⟨a, o, rfl, g, q⟩ := h
  cases ry
  exact d_in hu I g rx fun s3 I3 => ⟨.bl o.isSome, H, I3, rfl, q⟩
theorem op_niDi {X : Cx} (hu : X.A.units + 1 < cLine) : OpR X (compareOp .NotIn) (rDIn not) := by
  intro pins s σ H x y v u Q I rx ry h
  obtain ⟨a, o, rfl, g, q⟩ := h
  cases ry
  exact d_notIn hu I g rx fun s3 I3 => ⟨.bl (!o.isSome), H, I3, rfl, q⟩
theorem op_inXX {X : Cx} (hu : X.A.units + 65 < cLine) : OpR X (compareOp .In) (fun x y H Q => rInX X.K x y H Q ∨ rDIn id x y H Q) := OpR_or (op_inX hu) (op_inDi (by omega))
theorem op_niXX {X : Cx} (hu : X.A.units + 65 < cLine) : OpR X (compareOp .NotIn) (fun x y H Q => rNiX X.K x y H Q ∨ rDIn not x y H Q) := OpR_or (op_niX hu) (op_niDi (by omega))
def aInX (f : Bool → Bool) : Aop
  | [y, .dict es], k => match kD y with
    | some q => k (.p (.bool (f (valD es q).isSome)))
    | none => False
  | ds, k => aIn f ds k
theorem din_ok {K : PySem.W.Frag} {f : Bool → Bool} {r : R2} (h0 : POk K (tw r) (aIn f)) : POk K (tw (fun x y H Q => r x y H Q ∨ rDIn f x y H Q)) (aInX f) := by
  intro Z H vs ds k Q zl h2 h ret
  unfold aInX at h
  split at h
  · split at h
    · rename_i y es _ q ek
      obtain ⟨x, z, rfl, hy, ⟨a, kvs, rfl, hx, e, r⟩⟩ := all2_2 h2
      have hh := valD_of e r q
      rw [kV_of hy.u ek]
      refine ⟨_, _, rfl, .inr ⟨a, valV kvs q, rfl, DGet.k hx, ?_⟩⟩
      have es' : (valD es q).isSome = (valV kvs q).isSome := by
        cases c : valD es q with
        | none => rw [hh.2 c]; rfl
        | some d => obtain ⟨v, e1, _⟩ := hh.1 d c; rw [e1]; rfl
      rw [← es']
      exact ret _ _ Z H [] h (Ext.refl zl) (.p (.bl _))
    · exact h.elim
  · obtain ⟨x, y, e, z⟩ := h0 Z H vs ds k Q zl h2 h ret
    exact ⟨x, y, e, .inl z⟩
theorem ok_inX {K : PySem.W.Frag} : POk K (tw (fun x y H Q => rInX K x y H Q ∨ rDIn id x y H Q)) (aInX id) := din_ok ok_in
theorem ok_niX {K : PySem.W.Frag} : POk K (tw (fun x y H Q => rNiX K x y H Q ∨ rDIn not x y H Q)) (aInX not) := din_ok ok_ni
def aLenX : Aop
  | [.dict es], k => k (.p (.int es.length))
  | ds, k => aLen ds k
theorem call_lenX {X : Cx} : CallR X (.builtin "len") (fun xs H Q => (∃ x n, xs = [x] ∧ LenV X.K x H n ∧ Q (.int n) H) ∨ ∃ a kvs, xs = [V.ref a] ∧ H a = some (.dK kvs) ∧ Q (.int kvs.length) H) := CallR_or call_len call_lenD
theorem ok_lenX {K : PySem.W.Frag} : POu K (fun xs H Q => (∃ x n, xs = [x] ∧ LenV K x H n ∧ Q (.int n) H) ∨ ∃ a kvs, xs = [V.ref a] ∧ H a = some (.dK kvs) ∧ Q (.int kvs.length) H) aLenX := by
  intro Z H vs ds k Q zl h2 h ret
  unfold aLenX at h
  split at h
  · obtain ⟨x, rfl, ⟨a, kvs, rfl, hx, e, r⟩⟩ := all2_1 h2
    refine .inr ⟨a, kvs, rfl, hx, ?_⟩
    have el := congrArg List.length e
    rw [List.length_map, List.length_map] at el
    rw [← el]
    exact ret _ _ Z H [] h (Ext.refl zl) (.p (.int _))
  · exact .inl (ok_len Z H vs ds k Q zl h2 h ret)

/-! ### 44. {k: v, ..}, the keys written -/
structure JDp (X : Cx) (W : WX) (pos : Pos) (T : List Nat) (keys : List (Option Expr)) (values : List Expr) (ks : List Key) (ta : AA) : Prop where
  run : ∃ trs, PPs X pos keys values trs ∧ ∀ σ H (P : List (V × V) → Hp → Prop), liftA X.K W T ta σ H (fun vs H' => vs.length = ks.length → P ((ks.map kV).zip vs) H') → tPairs trs σ H P
section
variable {X : Cx} {W : WX} {T T1 T2 : List Nat} {pos : Pos} {keys : List (Option Expr)} {values : List Expr} {ks : List Key} {k v : Expr} {q : Key} {t1 : AE} {ta t2 : AA}
theorem jd_nil : JDp X W pos [] [] [] [] aNil := ⟨[], pps_nil, fun σ H P ⟨Z, g, w, Q, E, S, h, ok, ex⟩ => ok [] [] Z H g w [] h (Out.nil S) rfl⟩
theorem jd_cons (hk : PE X k (tC (kV q))) (hv : JE X W T1 v t1) (hr : JDp X W pos T2 keys values ks t2) : JDp X W pos (T1 ++ T2) (some k :: keys) (v :: values) (q :: ks) (aCons T2 t1 t2) := by
  obtain ⟨trs, h1, h2⟩ := hr.run
  refine ⟨_, pps_cons hk hv.pe h1, fun σ H P ⟨Z, g, w, Q, E, S, h, ok, ex⟩ => ?_⟩
  show lift X.K W T1 t1 σ H fun y H2 => tPairs trs σ H2 fun ps H3 => P ((kV q, y) :: ps) H3
  have s2 := seq2 (tr := liftA X.K W T2 t2) (P := fun y vs H' => vs.length = ks.length → P ((kV q, y) :: (ks.map kV).zip vs) H') S h (fun rs v vs Z' H' g' w' f qq O lv => ok rs (v :: vs) Z' H' g' w' f qq O (by simp [lv])) ex
  obtain ⟨Z0, g0, w0, Q0, E0, S0, h0, ok0, ex0⟩ := s2
  exact ⟨Z0, g0, w0, Q0, E0, S0, h0, fun r v Z' H' g' w' f qq O => h2 σ H' _ (ok0 r v Z' H' g' w' f qq O), ex0⟩
theorem jd_s {x : Str} {j} {p : Pos} (hv : JE X W T1 v t1) (hr : JDp X W pos T2 keys values ks t2) : JDp X W pos (T1 ++ T2) (some (.Constant (.str x) j p) :: keys) (v :: values) (.inr x :: ks) (aCons T2 t1 t2) := jd_cons pe_str hv hr
theorem jd_i {i : Int} {j} {p : Pos} (hv : JE X W T1 v t1) (hr : JDp X W pos T2 keys values ks t2) : JDp X W pos (T1 ++ T2) (some (.Constant (.int i) j p) :: keys) (v :: values) (.inl i :: ks) (aCons T2 t1 t2) := jd_cons pe_int hv hr
def rDisp (ks : List Key) (ta : AA) : AE := fun g Q E => ta g (fun rs g1 => match takes rs with
  | some ds => Q (.ow (.dc (mergeG [] (ks.zip ds)))) g1
  | none => False) E
theorem map_zip_fst {α β : Type} : ∀ {as : List α} {bs : List β}, as.length = bs.length → (as.zip bs).map (·.1) = as
  | [], _, _ => rfl
  | _ :: _, [], h => by cases h
  | a :: as, b :: bs, h => by
    rw [List.zip_cons_cons, List.map_cons, map_zip_fst (by simpa using h)]
theorem map_zip_snd {α β : Type} : ∀ {as : List α} {bs : List β}, as.length = bs.length → (as.zip bs).map (·.2) = bs
  | [], [], _ => rfl
  | [], _ :: _, h => by cases h
  | _ :: _, [], h => by cases h
  | a :: as, b :: bs, h => by
    rw [List.zip_cons_cons, List.map_cons, map_zip_snd (by simpa using h)]
theorem zip_map_l : ∀ {ks : List Key} {vs : List V}, (ks.map kV).zip vs = (ks.zip vs).map fun kv => (kV kv.1, kv.2)
  | [], _ => rfl
  | _ :: _, [] => rfl
  | k :: ks, v :: vs => by
    rw [List.map_cons, List.zip_cons_cons, List.zip_cons_cons, List.map_cons, zip_map_l]
theorem RRs.len {K : PySem.W.Frag} {Z : ZS} {H : Hp} {σ : L2.St} {g : Gm} {w : Ow} {rs : List R} {vs : List V} {f : List Addr} (h : RRs K Z H σ g w rs vs f) : vs.length = rs.length := by
  induction h with
  | nil => rfl
  | p _ _ ih => simp [ih]
  | sl _ _ _ _ ih => simp [ih]
  | vw _ _ ih => simp [ih]
  | ow _ _ ih => simp [ih]
theorem takes_len : ∀ {rs : List R} {ds : List D}, takes rs = some ds → ds.length = rs.length
  | [], ds, e => by cases e; rfl
  | .p d :: rs, ds, e => by
    simp only [takes, Option.map_eq_some_iff] at e
    obtain ⟨t, e1, rfl⟩ := e
    simp [takes_len e1]
  | .ow o :: rs, ds, e => by
    unfold takes at e
    cases e1 : frz o with
    | none => rw [e1] at e; simp at e
    | some d =>
      cases e2 : takes rs with
      | none => rw [e1, e2] at e; simp at e
      | some t =>
        rw [e1, e2] at e
        cases e
        simp [takes_len e2]
  | .sl _ _ :: _, _, e => by cases e
  | .vw _ _ _ :: _, _, e => by cases e
theorem je_disp (h : JDp X W pos T keys values ks ta) (hall : keys.all (·.isSome) = true) (hl : keys.length = values.length) (h0 : keys ≠ []) (h15 : keys.length ≤ 15) (hks : ks.length ≤ 15) : JE X W T (.Dict keys values pos) (rDisp ks ta) := by
  obtain ⟨trs, h1, h2⟩ := h.run
  refine ⟨PEi (pe_disp h1 hall hl h0 h15) fun σ H Q ⟨Z, g, w, q, E, S, hh, ok, ex⟩ p hp => h2 σ _ _ ?_⟩
  have hz : ¬ Z p := fun z => S.zal p z hp
  have hw : ∀ j, p ∉ w j := fun j m => S.wal j p m hp
  have x0 := Ext.own (Z := Z) (p := p) (o := .dK []) S.zal hp
  refine ⟨Z, g, w, _, E, S.ext x0, hh, fun rs vs Z1 H1 g1 w1 f1 q1 O1 lv0 => ?_, fun C fs d Z' H' g' w' e s P xd => ex C fs d Z' H' g' w' e s (by simpa using x0.pst.trans P) xd⟩
  have lv : ks.length = vs.length := lv0.symm
  cases e : takes rs with
  | none => rw [e] at q1; exact q1.elim
  | some ds =>
    rw [e] at q1
    have h1p : H1 p = some (.dK []) := by
      rw [O1.ps.only p (by rw [upd_same]; simp) fun i _ => hw i]
      exact upd_same
    refine ⟨h1p, ks.zip vs, zip_map_l, by rw [List.length_zip]; omega, ?_⟩
    have L := O1.let
    have tk := O1.rr.take e
    have pz1 : ¬ Z1 p := fun z => by
      rcases O1.ps.zn p z with z | z | ⟨i, _, m⟩
      · exact hz z
      · rw [upd_same] at z; cases z
      · exact hw i m
    have pf1 : p ∉ f1 := fun m => by
      rcases O1.sr p m with z | ⟨i, _, m⟩
      · rw [upd_same] at z; cases z
      · exact hw i m
    have pw1 : ∀ j, p ∉ w1 j := fun j m => by
      by_cases hj : j ∈ T
      · rcases O1.ps.src j hj p m with z | ⟨i, _, m⟩
        · rw [upd_same] at z; cases z
        · exact hw i m
      · rw [O1.ps.fw j hj] at m
        exact hw j m
    have pL : ¬ (Z1 p ∨ p ∈ f1) := fun z => z.elim pz1 pf1
    have S2 := L.so.upd (x := .dK (mergeK [] (ks.zip vs))) pL pw1
    have P2 : Pst T Z H g w (fun a => Z1 a ∨ a ∈ f1) H1 g1 w1 := by simpa using x0.pst.trans L.ps
    have kp : Kp (fun a => Z1 a ∨ a ∈ f1) (fun a => Z1 a ∨ a ∈ f1) H1 (upd H1 p (.dK (mergeK [] (ks.zip vs)))) := fun a z => ⟨z, upd_ne fun ea => pL (ea ▸ z)⟩
    have ld : ks.length = ds.length := by rw [takes_len e, ← O1.rr.len]; exact lv
    obtain ⟨m1, m2⟩ := merge_rel (K := X.K) (Z := fun a => Z1 a ∨ a ∈ f1) (H := H1) (m := ks.zip vs) (ms := ks.zip ds) (kvs := []) (es := []) rfl .nil (by rw [map_zip_fst lv, map_zip_fst ld]) (by rw [map_zip_snd lv, map_zip_snd ld]; exact tk)
    refine ok _ _ _ _ _ _ [p] q1 ⟨S2, P2.upd hp, ?_, by simp, fun a m z => ?_, fun a m j mj => ?_, fun a m => ?_, fun a m => ?_⟩
    · simpa using RRs.ow (σ := σ) (g := g1) (w := w1) (RO.dc upd_same m1 (m2.kp kp)) .nil
    · rw [List.mem_singleton.mp m] at z; exact pL z
    · rw [List.mem_singleton.mp m] at mj; exact pw1 j mj
    · rw [List.mem_singleton.mp m, upd_same]; simp
    · rw [List.mem_singleton.mp m]; exact .inl hp
theorem mergeG_app : ∀ (more kvs : List (Key × D)), ((kvs ++ more).map (·.1)).Nodup → mergeG kvs more = kvs ++ more
  | [], kvs, _ => by simp [mergeG]
  | (k, d) :: more, kvs, h => by
    have e : putG kvs k d = kvs ++ [(k, d)] := by
      unfold putG
      rw [if_neg]
      rw [List.any_eq_true]
      rintro ⟨x, mx, ex⟩
      have ex : x.1 = k := by simpa using ex
      rw [List.map_append, List.nodup_append] at h
      exact h.2.2 x.1 (List.mem_map.mpr ⟨x, mx, rfl⟩) k (by simp) ex
    show mergeG (putG kvs k d) more = _
    rw [e, mergeG_app more (kvs ++ [(k, d)]) (by simpa using h)]
    simp
def rDispN (ks : List Key) (ta : AA) : AE := fun g Q E => ks.Nodup ∧ ta g (fun rs g1 => match takes rs with
  | some ds => Q (.ow (.dc (ks.zip ds))) g1
  | none => False) E
theorem je_dispN (h : JDp X W pos T keys values ks ta) (hall : keys.all (·.isSome) = true) (hl : keys.length = values.length) (h0 : keys ≠ []) (h15 : keys.length ≤ 15) (hks : ks.length ≤ 15) : JE X W T (.Dict keys values pos) (rDispN ks ta) := by
  obtain ⟨trs, h1, h2⟩ := h.run
  refine ⟨PEi (pe_disp h1 hall hl h0 h15) fun σ H Q ⟨Z, g, w, q, E, S, ⟨hnd, hh⟩, ok, ex⟩ p hp => h2 σ _ _ ?_⟩
  have hz : ¬ Z p := fun z => S.zal p z hp
  have hw : ∀ j, p ∉ w j := fun j m => S.wal j p m hp
  have x0 := Ext.own (Z := Z) (p := p) (o := .dK []) S.zal hp
  refine ⟨Z, g, w, _, E, S.ext x0, hh, fun rs vs Z1 H1 g1 w1 f1 q1 O1 lv0 => ?_, fun C fs d Z' H' g' w' e s P xd => ex C fs d Z' H' g' w' e s (by simpa using x0.pst.trans P) xd⟩
  have lv : ks.length = vs.length := lv0.symm
  cases e : takes rs with
  | none => rw [e] at q1; exact q1.elim
  | some ds =>
    rw [e] at q1
    have h1p : H1 p = some (.dK []) := by
      rw [O1.ps.only p (by rw [upd_same]; simp) fun i _ => hw i]
      exact upd_same
    refine ⟨h1p, ks.zip vs, zip_map_l, by rw [List.length_zip]; omega, ?_⟩
    have L := O1.let
    have tk := O1.rr.take e
    have pz1 : ¬ Z1 p := fun z => by
      rcases O1.ps.zn p z with z | z | ⟨i, _, m⟩
      · exact hz z
      · rw [upd_same] at z; cases z
      · exact hw i m
    have pf1 : p ∉ f1 := fun m => by
      rcases O1.sr p m with z | ⟨i, _, m⟩
      · rw [upd_same] at z; cases z
      · exact hw i m
    have pw1 : ∀ j, p ∉ w1 j := fun j m => by
      by_cases hj : j ∈ T
      · rcases O1.ps.src j hj p m with z | ⟨i, _, m⟩
        · rw [upd_same] at z; cases z
        · exact hw i m
      · rw [O1.ps.fw j hj] at m
        exact hw j m
    have pL : ¬ (Z1 p ∨ p ∈ f1) := fun z => z.elim pz1 pf1
    have S2 := L.so.upd (x := .dK (mergeK [] (ks.zip vs))) pL pw1
    have P2 : Pst T Z H g w (fun a => Z1 a ∨ a ∈ f1) H1 g1 w1 := by simpa using x0.pst.trans L.ps
    have kp : Kp (fun a => Z1 a ∨ a ∈ f1) (fun a => Z1 a ∨ a ∈ f1) H1 (upd H1 p (.dK (mergeK [] (ks.zip vs)))) := fun a z => ⟨z, upd_ne fun ea => pL (ea ▸ z)⟩
    have ld : ks.length = ds.length := by rw [takes_len e, ← O1.rr.len]; exact lv
    obtain ⟨m1, m2⟩ := merge_rel (K := X.K) (Z := fun a => Z1 a ∨ a ∈ f1) (H := H1) (m := ks.zip vs) (ms := ks.zip ds) (kvs := []) (es := []) rfl .nil (by rw [map_zip_fst lv, map_zip_fst ld]) (by rw [map_zip_snd lv, map_zip_snd ld]; exact tk)
    have eM : mergeG [] (ks.zip ds) = ks.zip ds := by
      rw [mergeG_app _ _ (by rw [List.nil_append, map_zip_fst ld]; exact hnd), List.nil_append]
    rw [eM] at m1 m2
    refine ok _ _ _ _ _ _ [p] q1 ⟨S2, P2.upd hp, ?_, by simp, fun a m z => ?_, fun a m j mj => ?_, fun a m => ?_, fun a m => ?_⟩
    · simpa using RRs.ow (σ := σ) (g := g1) (w := w1) (RO.dc upd_same m1 (m2.kp kp)) .nil
    · rw [List.mem_singleton.mp m] at z; exact pL z
    · rw [List.mem_singleton.mp m] at mj; exact pw1 j mj
    · rw [List.mem_singleton.mp m, upd_same]; simp
    · rw [List.mem_singleton.mp m]; exact .inl hp
/-! ### 45. d[k] = e, d an owned dict of plain data; d.get(k, x) -/
theorem VW.dct {K : PySem.W.Frag} {Z : ZS} {H : Hp} {σ : L2.St} {g : Gm} {w : Ow} {i : Nat} {pl : O → O} {a : Addr} {es es' : List (Key × D)} {xs' : List (Key × V)} (S : SO K Z H σ g w) (h : VW K Z H σ g w i (.dc es) pl (.ref a)) (e2 : es'.map (·.1) = xs'.map (·.1)) (r2 : PDs K Z H (xs'.map (·.2)) (es'.map (·.2))) :
    SO K Z (upd H a (.dK xs')) σ (g.set i (some (pl (.dc es')))) w ∧ Pst [i] Z H g w Z (upd H a (.dK xs')) (g.set i (some (pl (.dc es')))) w :=
  h.mut S fun fv ro => by
    cases ro with
    | dc h e r => exact ⟨by simp, fun kp _ _ => .dc upd_same e2 (r2.kp kp)⟩
theorem VW.atD {K : PySem.W.Frag} {Z : ZS} {H : Hp} {σ : L2.St} {g : Gm} {w : Ow} {i : Nat} {pl : O → O} {v : V} {es : List (Key × D)} (h : VW K Z H σ g w i (.dc es) pl v) : ∃ a kvs, v = .ref a ∧ H a = some (.dK kvs) ∧ es.map (·.1) = kvs.map (·.1) ∧ PDs K Z H (kvs.map (·.2)) (es.map (·.2)) := by
  obtain ⟨rv, pre, f, post, e1, e2, ro, e4, plug⟩ := h
  cases ro with
  | dc h e r => exact ⟨_, _, rfl, h, e, r⟩
def sSetD (I : Nat) (T2 T3 : List Nat) (te to ti : AE) : AS := fun N g => te g (fun r g1 => grd r (T2 ++ T3) (to g1 (fun ro g2 => match vwp ro with
  | some (i, .dc es0, pl) => i = I ∧ T3.contains i = false ∧ ti g2 (fun ri g3 => match takes [r], ri with
    | some [d], .p y => (match kD y with
      | some k => es0.length < sizeLine ∧ ∃ es', putG es0 k d = es' ∧ N.nx (g3.set i (some (pl (.dc es'))))
      | none => False)
    | _, _ => False) N.ex
  | _ => False) N.ex)) N.ex
end
section
variable {X : Cx} {W : WX} {B T T1 T2 T3 : List Nat} {o i e : Expr} {to te ti : AE} {pos pos' : Pos}
theorem js_setD (I : Nat) (hu : X.A.units + 1 < cLine) (he : JE X W T1 e te) (ho : JE X W T2 o to) (hi : JE X W T3 i ti)
    (hs : swapsWith e (some (.Subscript o i pos')) pos.line X.env = pure false := by rfl) :
    JS X W B (T1 ++ (T2 ++ (T3 ++ [I]))) (.Assign [.Subscript o i pos'] e pos) (sSetD I T2 T3 te to ti) := by
  refine ⟨PSi (ps_dput hu ho.pe hi.pe he.pe hs) fun D σ H ⟨Z, g, w, N, S, h, ok, rt, ex⟩ => ?_⟩
  refine ⟨Z, g, w, _, N.ex, S, h, fun r v Z1 H1 g1 w1 f1 q1 O1 => ?_, ex.e app_l⟩
  obtain ⟨gr, q1⟩ := grd.get q1
  have ex1 := ex.then (O1.fin (B := B))
  refine ⟨Z1, g1, w1, _, N.ex, O1.so, q1, fun ro vo Z2 H2 g2 w2 f2 q2 O2 => ?_, ex1.e app_l⟩
  have ex2 := ex1.then (O2.fin (B := B))
  split at q2
  · rename_i i es0 pl ev
    obtain ⟨rfl, hT, q2⟩ := q2
    refine ⟨Z2, g2, w2, _, N.ex, O2.so, q2, fun ri vi Z3 H3 g3 w3 f3 q3 O3 => ?_, ex2.e app_l⟩
    split at q3
    · rename_i d y et
      split at q3
      · rename_i k ek
        obtain ⟨hz, _, rfl, q3⟩ := q3
        have O4 := O2.cons O3 (grd_vwp ev hT)
        have gr' : grd r (T2 ++ T3) True := gr
        have O5 := O1.cons O4 gr'
        have ei := kV_of (O3.rr.p1.1).t.u ek
        subst ei
        have L := O5.let
        have vw := O4.rr.vwp ev
        have ef : f2 = [] := by
          have := O2.rr.tail ev
          cases this; rfl
        subst ef
        have tk := O1.take2 O4 et (f := f1 ++ ([] ++ f3)) app_mem
        have vwL := vw.kp (Z1 := fun a => Z3 a ∨ a ∈ f1 ++ ([] ++ f3)) (H1 := H3) Kp.or (fun _ _ => rfl) rfl rfl
        obtain ⟨a, kvs, ea, hx, ek2, rx⟩ := vwL.atD
        subst ea
        obtain ⟨v', e1, pv⟩ := tk.one
        cases e1
        have el := congrArg List.length ek2
        rw [List.length_map, List.length_map] at el
        refine ⟨a, _, rfl, DPut.k hx (by omega), ?_⟩
        obtain ⟨m1, m2⟩ := put_rel (k := k) ek2 rx pv
        obtain ⟨S4, P4⟩ := vwL.dct (xs' := putK kvs k v) L.so m1 m2
        refine (ok _ _ _ _ _ ⟨S4, ?_, fun _ _ => rfl, rfl⟩).1 q3
        exact (L.ps.trans P4).mono fun j hj => by
          simp only [List.mem_append] at hj ⊢
          rcases hj with (hj | hj | hj) | hj
          · exact .inl hj
          · exact .inr (.inl hj)
          · exact .inr (.inr (.inl hj))
          · exact .inr (.inr (.inr hj))
      · exact q3.elim
    · exact q3.elim
  · exact q2.elim
theorem dct_of {K : PySem.W.Frag} {Z : ZS} {H : Hp} {v : V} {es : List (D × D)} (h : PDt K Z H v (.dict es)) : ∃ a kvs, v = .ref a ∧ H a = some (.dK kvs) ∧ es.map (·.1) = kvs.map (fun q => kP q.1) ∧ PDs K Z H (kvs.map (·.2)) (es.map (·.2)) := h
/-- d.get(k, x) -/
def rGet2 (T2 T3 : List Nat) (to te tf : AE) : AE := fun g Q E => to g (fun ro g1 => match dat ro with
  | some (.dict es) => grd ro (T2 ++ T3) (te g1 (fun re g2 => match re with
    | .p y => tf g2 (fun rf g3 => match rf with
      | .p d => (match kD y with
        | some k => Q (.p ((valD es k).getD d)) g3
        | none => False)
      | _ => False) E
    | _ => False) E)
  | _ => False) E
theorem je_get2 {e2 : Expr} {t2 : AE} {apos cpos : Pos} (hu : X.A.units + 1 < cLine) (ho : JE X W T1 o to) (he : JE X W T2 e te) (hf : JE X W T3 e2 t2) (m : M2 X o "get" apos e e2 cpos := by exact ⟨rfl, rfl, rfl, rfl⟩) :
    JE X W (T1 ++ (T2 ++ T3)) (.Call (.Attribute o "get" apos) [e, e2] [] cpos) (rGet2 T2 T3 to te t2) := by
  refine ⟨PEi (pe_dget2 hu ho.pe he.pe hf.pe m) fun σ H Q ⟨Z, g, w, q, E, S, h, ok, ex⟩ => ?_⟩
  refine ⟨Z, g, w, _, E, S, h, fun ro vo Z1 H1 g1 w1 f1 q1 O1 => ?_, ex.of⟩
  have ex1 := ex.then O1.ps
  split at q1
  · rename_i es ed
    obtain ⟨gr, q1⟩ := grd.get q1
    have t1 := O1.rr.t (ds := [.dict es]) (by simp only [datL]; rw [ed])
    cases t1 with
    | cons t1 _ =>
      obtain ⟨a, kvs, rfl, hx, _, _⟩ := dct_of t1
      refine ⟨a, rfl, .inl ⟨kvs, .inl hx⟩, Z1, g1, w1, _, E, O1.so, q1, fun re ve Z2 H2 g2 w2 f2 q2 O2 => ?_, ex1.of⟩
      split at q2
      · rename_i y
        refine ⟨Z2, g2, w2, _, E, O2.so, q2, fun rf vf Z3 H3 g3 w3 f3 q3 O3 => ?_, ex1.then O2.ps⟩
        split at q3
        · rename_i d
          split at q3
          · rename_i k ek
            have O5 := O1.cons (O2.cons O3 trivial) gr
            have t3 := O5.rr.t (ds := [.dict es, y, d]) (by simp only [datL]; rw [ed]; rfl)
            obtain ⟨x0, y0, z0, e0, t4, ty, td⟩ := all2_3 t3
            cases e0
            obtain ⟨a', kvs', e1, hx', e, r⟩ := dct_of t4
            cases e1
            rw [kV_of ty.u ek]
            have hh := valD_of e r k
            refine ⟨valV kvs' k, DGet.k hx', ?_⟩
            have pd : PD X.K Z3 H3 ((valV kvs' k).getD vf) ((valD es k).getD d) := by
              cases c : valD es k with
              | none =>
                rw [hh.2 c]
                exact O3.rr.p1.1
              | some d' =>
                obtain ⟨v', e1, pv⟩ := hh.1 d' c
                rw [e1]; exact pv
            have O6 := (O5.op (Ext.refl O5.so.zal) (RR1.p pd))
            exact ok _ _ _ _ _ _ [] q3 O6
          · exact q3.elim
        · exact q3.elim
      · exact q2.elim
  · exact q1.elim
end
end VL

namespace VL
open PySem PySem.Spec PyProof.Rows L2

/-! ### 46. A tuple 0 times, once -/
theorem tuple_mul1 (l : Addr) (items : Array Value) (n : Nat) (dd : Option Addr) (sl : Array (Option Value)) (x : Int) (u : Tok) (c0 : (decide (x < -(2 ^ 63)) || decide (x ≥ 2 ^ 63)) = false) (c1 : (items.isEmpty || x == 1) = true) :
    Meets (Builtin.«tuple.__mul__» ⟨[.ref l, .int x u], []⟩) (fun _ R s => s.heap.get? l = some { cls := .type "tuple", dict := dd, data := .seq items n, slots := sl } ∧ R (.ok (.ret (Value.ref l))) s) :=
  .of_wp fun prog w A R s h => by
    obtain ⟨hp, g, d, tk, os⟩ := s
    obtain ⟨hl, h⟩ := h
    have f1 := AutoSeq1.idx_int
    wp_walk using wpAny_loadPart' hl
    repeat (first
      | (refine wpAny_ite_false (decide_eq_false (by rw [c0]; exact Bool.false_ne_true)) ?_; wp_walk using wpAny_loadPart' hl)
      | (refine wpAny_ite_true (decide_eq_true (by rw [c1])) ?_; wp_walk using wpAny_loadPart' hl))
    exact ⟨_, rfl, h⟩
theorem tuple_mul0 (l : Addr) (items : Array Value) (n : Nat) (dd : Option Addr) (sl : Array (Option Value)) (x : Int) (u : Tok) (c0 : (decide (x < -(2 ^ 63)) || decide (x ≥ 2 ^ 63)) = false) (c1 : (items.isEmpty || x == 1) = false) (c2 : (decide (x ≤ 0) || items.isEmpty) = true) :
    Meets (Builtin.«tuple.__mul__» ⟨[.ref l, .int x u], []⟩) (fun _ R s => s.heap.get? l = some { cls := .type "tuple", dict := dd, data := .seq items n, slots := sl } ∧
      R (.ok (.ret (Value.ref s.heap.objs.size))) { s with heap := s.heap.push { cls := Value.type "tuple", data := Data.seq #[] }, toks := s.toks }) :=
  .of_wp fun prog w A R s h => by
    obtain ⟨hp, g, d, tk, os⟩ := s
    obtain ⟨hl, h⟩ := h
    have f1 := AutoSeq1.idx_int
    wp_walk using wpAny_loadPart' hl
    repeat (first
      | (refine wpAny_ite_false (decide_eq_false (by rw [c0]; exact Bool.false_ne_true)) ?_; wp_walk using wpAny_loadPart' hl)
      | (refine wpAny_ite_false (decide_eq_false (by rw [c1]; exact Bool.false_ne_true)) ?_; wp_walk using wpAny_loadPart' hl)
      | (refine wpAny_ite_true (decide_eq_true (by rw [c2])) ?_; wp_walk using wpAny_loadPart' hl))
    exact ⟨_, rfl, h⟩
def rMul01 (K : PySem.W.Frag) : R2 := fun x y H Q => ∃ l k xs, x = .ref l ∧ y = .int k ∧ SqT K H l xs ∧ (k = 0 ∨ k = 1) ∧ ((k = 1 ∨ xs = []) → Q (.ref l) H) ∧ (¬ (k = 1 ∨ xs = []) → ∀ p, H p = none → Q (.ref p) (upd H p (.tup [])))
theorem op_mul01 {X : Cx} : OpR X (binaryOp .Mult) (rMul01 X.K) := by
  intro pins s σ H x y v u Q I rx ry h
  obtain ⟨l, k, xs, rfl, rfl, hT, hk, q1, q2⟩ := h
  cases rx
  obtain ⟨t, rfl⟩ := ry
  obtain ⟨its, r, ⟨⟨cls, dd, data, sl⟩, ho, hc, n, hd⟩, hs⟩ := I.tuple hT
  simp only at hc hd
  subst hc hd
  have hle : its.length = xs.length := r.length.symm
  have c0 : (decide (k < -(2 ^ 63)) || decide (k ≥ 2 ^ 63)) = false := by
    rw [decide_eq_false (by omega), decide_eq_false (by omega)] <;> rfl
  have he : its.toArray.isEmpty = true ↔ xs = [] := by
    cases its with
    | nil => exact ⟨fun _ => List.eq_nil_of_length_eq_zero hle.symm, fun _ => rfl⟩
    | cons a b => exact ⟨fun z => (by cases z), fun z => (by rw [z] at hle; cases hle)⟩
  by_cases c : k = 1 ∨ xs = []
  · have c1 : (its.toArray.isEmpty || k == 1) = true := by
      rcases c with c | c
      · rw [c]; simp
      · rw [he.mpr c]; rfl
    refine wpAny_binaryOp_repeat_ref (T := "tuple") (U := "int") (by decide) ⟨_, ho, rfl⟩ (fun s' => typeIs_int s' k t) noFill_tuple_mul F.fills_int_mul F.slot_int_rmul repeat_tuple F.slot_int_index.lookup
      (call_meets F.slot_int_rmul (typeIs_int s k t) F.entry_int_rmul (F.args_int_rmul_2 _ _) (int_rmul_tuple k t l its.toArray n dd sl)
        ⟨ho, rfl, ⟨_, ho, rfl⟩, call_meets F.slot_tuple_mul ⟨_, ho, rfl⟩ F.entry_tuple_mul (F.args_tuple_mul_2 _ _) (tuple_mul1 l its.toArray n dd sl k t c0 c1) ⟨ho, ?_⟩⟩)
    exact ⟨.ref l, H, I, rfl, q1 c⟩
  · have hk0 : k = 0 := hk.resolve_right fun z => c (.inl z)
    have hne : its.toArray.isEmpty = false := by
      cases z : its.toArray.isEmpty with
      | false => rfl
      | true => exact absurd (.inr (he.mp z)) c
    have c1 : (its.toArray.isEmpty || k == 1) = false := by rw [hne, hk0]; rfl
    have c2 : (decide (k ≤ 0) || its.toArray.isEmpty) = true := by rw [hk0]; rfl
    refine wpAny_binaryOp_repeat_ref (T := "tuple") (U := "int") (by decide) ⟨_, ho, rfl⟩ (fun s' => typeIs_int s' k t) noFill_tuple_mul F.fills_int_mul F.slot_int_rmul repeat_tuple F.slot_int_index.lookup
      (call_meets F.slot_int_rmul (typeIs_int s k t) F.entry_int_rmul (F.args_int_rmul_2 _ _) (int_rmul_tuple k t l its.toArray n dd sl)
        ⟨ho, rfl, ⟨_, ho, rfl⟩, call_meets F.slot_tuple_mul ⟨_, ho, rfl⟩ F.entry_tuple_mul (F.args_tuple_mul_2 _ _) (tuple_mul0 l its.toArray n dd sl k t c0 c1 c2) ⟨ho, ?_⟩⟩)
    refine ⟨.ref s.heap.objs.size, _, I.laid (t' := s.toks) (o := .tup []) (fun b ob q => Heap.get?_push_of_some _ q) (Nat.le_refl _) ?_, rfl, q2 c _ (I.hok.fresh (Nat.le_refl _))⟩
    exact ⟨Nat.zero_le _, [], .nil, IsTup.new _ _⟩
def aMulY : Aop
  | [.tuple ds, .int n], k => (n = 0 ∨ n = 1) ∧ k (.p (.tuple (if n = 1 then ds else [])))
  | ds, k => aMulX ds k
theorem op_mulY {X : Cx} : OpR X (binaryOp .Mult) (fun x y H Q => rMulX x y H Q ∨ rMul01 X.K x y H Q) := OpR_or op_mulXX op_mul01
theorem ok_mulY {K : PySem.W.Frag} : POk K (tw (fun x y H Q => rMulX x y H Q ∨ rMul01 K x y H Q)) aMulY := by
  intro Z H vs ds k Q zl h2 h ret
  unfold aMulY at h
  split at h
  · rename_i ds n
    obtain ⟨x, y, rfl, h1, hi⟩ := all2_2 h2
    rw [hi.int_i]
    obtain ⟨a, xs, rfl, hx, rx⟩ := PD.tup_i h1
    obtain ⟨hn, hk⟩ := h
    refine ⟨_, _, rfl, .inr ⟨a, n, xs, rfl, rfl, hx, hn, fun c => ?_, fun c p hp => ?_⟩⟩
    · have e : (if n = 1 then ds else []) = ds := by
        rcases c with c | c
        · rw [if_pos c]
        · have : ds = [] := List.eq_nil_of_length_eq_zero (by rw [← rx.length, c]; rfl)
          rw [this]; split <;> rfl
      rw [e] at hk
      exact ret _ _ Z H [] hk (Ext.refl zl) (.p h1)
    · have e : (if n = 1 then ds else []) = [] := if_neg fun z => c (.inl z)
      rw [e] at hk
      exact ret _ _ _ _ [] hk (Ext.new zl hp) (.p (.tup (.inl ⟨.inr rfl, .inl upd_same⟩) .nil))
  · obtain ⟨x, y, e, z⟩ := ok_mulX Z H vs ds k Q zl h2 h ret
    exact ⟨x, y, e, .inl z⟩

/-! ### 47. for i, x in enumerate(list) -/
def enumD (ds : List D) : List D := ds.mapIdx fun i d => .tuple [.int (i : Nat), d]
def rEnum (te : AE) : AI := fun g Q E => te g (fun r g1 => match datu r with
  | some (.list ds) => Q (enumD ds) (slots1 r) g1
  | _ => False) E
section
variable {K : PySem.W.Frag} {Z : ZS} {H : Hp} {a : Addr} {xs : List V} {ds : List D} {C : List Addr}
theorem ItD.e (st : ∀ Z' H', Kp Z Z' H H' → (∀ a ∈ C, H' a = H a) → SqL K H' a xs) (r : PDs K Z H xs ds) : ItD K Z H C (Ite K a) (enumD ds) where
  go := fun Z' H' i k c hi => by
    have hi : i < ds.length := by simpa [enumD] using hi
    exact ⟨xs, xs[i]'(by rw [r.length]; exact hi), st Z' H' k c, by simp [r.length, hi]⟩
  yl := fun Z' H' i d x H'' k c zl hd ⟨T, y, e1, hT, e2, hy⟩ => by
    subst e1 e2
    have hx := hy xs (st Z' _ k c)
    have hd : (ds[i]?).map (fun d => PyData.tuple [.int (i : Nat), d]) = some d := by
      unfold enumD at hd
      rw [List.getElem?_mapIdx] at hd
      exact hd
    obtain ⟨d0, ed, e3⟩ := Option.map_eq_some_iff.mp hd
    subst e3
    obtain ⟨v, h1, h2⟩ := r.get ed
    rw [h1] at hx
    cases hx
    exact ⟨_, Ext.new zl hT, .tup (.inl ⟨.inr rfl, .inl upd_same⟩) (.cons (.int _) (.cons ((h2.kp k).kp (Kp.new zl hT)) .nil))⟩
  st := fun Z' H' k c => ⟨xs, st Z' H' k c, by rw [r.length]; simp [enumD]⟩
end
section
variable {X : Cx} {W : WX} {T : List Nat} {e : Expr} {te : AE} {elts : List Expr} {kk : Nat} {tpos p pos : Pos}
theorem ji_enum (he : JE X W T e te) (hg : Gl X "enumerate") (hm : X.mg "enumerate" = none) (hs : starEach [e] X.env = [(false, eval e X.env)] := by rfl) (hs2 : starEach (e :: []) X.env = (false, eval e X.env) :: starEach [] X.env := by rfl) :
    JI X W T (.Tuple elts kk tpos) (.Call (.Name "enumerate" p) [e] [] pos) (rEnum te) := by
  refine ⟨PIi (pi_enum hg hm (pa_cons he.pe pa_nil (hs := hs2)) hs) fun σ H R ⟨Z, g, w, q, E, S, h, ok, ex⟩ => ⟨Z, g, w, _, E, S, h, fun r v Z1 H1 g1 w1 f q1 O1 => ?_, ex⟩⟩
  show ∃ a xs, [v] = [.ref a] ∧ SqL X.K H1 a xs ∧ R (Ite X.K a) H1
  have fin : ∀ {ds : List D} {sl : List Nat} {J : It} {C : List Addr}, q ds sl g1 → ItD X.K Z1 H1 C J ds → (∀ a ∈ C, H1 a ≠ none ∧ ∀ j, a ∈ w1 j → j ∈ sl) → R J H1 := fun q' it c => ok _ _ _ _ _ _ _ _ _ _ _ q' O1 it c
  have noC : ∀ {sl : List Nat}, ∀ a ∈ ([] : List Addr), H1 a ≠ none ∧ ∀ j, a ∈ w1 j → j ∈ sl := fun a m => absurd m (by simp)
  have plain : ∀ {d : D} {sl : List Nat}, PD X.K Z1 H1 v d → (match some d with
      | some (.list ds) => q (enumD ds) sl g1
      | _ => False) → ∃ a xs, [v] = [.ref a] ∧ SqL X.K H1 a xs ∧ R (Ite X.K a) H1 := fun {d sl} h q' => by
    cases h with
    | lst z h r => exact ⟨_, _, rfl, .of h, fin q' (.e (fun Z' H' k _ => .of ((k _ z).2.trans h)) r) noC⟩
    | non => exact q'.elim
    | bl b => exact q'.elim
    | int i => exact q'.elim
    | str x => exact q'.elim
    | tup _ _ => exact q'.elim
    | dct _ _ _ _ => exact q'.elim
  have owned : ∀ {o : O} {sl : List Nat} {fo : List Addr}, RO X.K Z1 H1 o v fo → (∀ a ∈ fo, ∀ j, a ∈ w1 j → j ∈ sl) → (match sh o with
      | some (.list ds) => q (enumD ds) sl g1
      | _ => False) → ∃ a xs, [v] = [.ref a] ∧ SqL X.K H1 a xs ∧ R (Ite X.K a) H1 := fun {o sl fo} ro own q' => by
    cases ro with
    | p h => exact plain h q'
    | @ls a xs ds h r => exact ⟨_, _, rfl, .of h, fin q' (.e (C := [a]) (fun Z' H' k c => .of ((c a (by simp)).trans h)) r) fun b m => by
        rw [List.mem_singleton.mp m]
        exact ⟨by rw [h]; simp, own a (by simp)⟩⟩
    | dc _ _ _ => exact q'.elim
    | lo _ _ => exact q'.elim
    | dco _ _ _ => exact q'.elim
    | ins _ _ _ => exact q'.elim
    | val _ => exact q'.elim
    | exc _ => exact q'.elim
    | fl _ => exact q'.elim
  have hR := O1.rr
  cases hR with
  | p h t => cases t; exact plain h q1
  | sl e1 e2 ro t =>
    cases t
    rename_i i o
    by_cases hp : (∃ ns, o = .fl ns)
    · obtain ⟨ns, rfl⟩ := hp
      generalize w1 i = fw at ro
      cases ro with
      | @fl a _ c =>
        rcases c with ⟨z, r⟩ | c
        · exact ⟨a, _, rfl, .inl r, fin q1 (.e (fun Z' H' k _ => .inl (Rd.kp r (k a z).2)) (ints_pd _)) noC⟩
        · exact ⟨a, _, rfl, c H1, fin q1 (.e (fun Z' H' _ _ => c H') (ints_pd _)) noC⟩
    · refine owned (sl := [i]) ro (fun a m j mj => by rw [O1.so.dj j i a mj m]; simp) ?_
      cases o with
      | fl ns => exact absurd ⟨ns, rfl⟩ hp
      | _ => exact q1
  | vw h t =>
    cases t
    rename_i i o pl
    obtain ⟨rv, pre, fo, post, e1, e2, ro, _, _⟩ := h
    exact owned (sl := [i]) ro (fun a m j mj => by rw [O1.so.dj j i a mj (by rw [e2]; simp [m])]; simp) q1
  | ow h t =>
    cases t
    exact owned (sl := []) h (fun a m j mj => absurd mj (O1.dw a (by simp [m]) j)) q1
end
end VL

    set_option Elab.async false
    set_option linter.all false
    set_option maxRecDepth 100000
    set_option maxHeartbeats 4000000
    namespace VL
    open PySem PySem.Spec PyProof.Rows L2

    /-! ### 48. The readings of these rules at a state that is written out -/
    theorem x_rDisp {ks : List Key} {ta : AA} {Q : R → Gm → Prop} {E : EX} {g0 : Gm} {o0 : Option O} : rDisp ks ta (o0 :: g0) Q E = (fun (g : Gm) => (ta g (fun rs g1 => match takes rs with
  | some ds => Q (.ow (.dc (mergeG [] (ks.zip ds)))) g1
  | none => False) E : Prop)) (o0 :: g0) := rfl
theorem x_rDispN {ks : List Key} {ta : AA} {Q : R → Gm → Prop} {E : EX} {g0 : Gm} {o0 : Option O} : rDispN ks ta (o0 :: g0) Q E = (fun (g : Gm) => (ks.Nodup ∧ ta g (fun rs g1 => match takes rs with
  | some ds => Q (.ow (.dc (ks.zip ds))) g1
  | none => False) E : Prop)) (o0 :: g0) := rfl
theorem x_sSetD {I : Nat} {T2 T3 : List Nat} {te to ti : AE} {N : AN} {g0 : Gm} {o0 : Option O} : sSetD I T2 T3 te to ti N (o0 :: g0) = (fun (g : Gm) => (te g (fun r g1 => grd r (T2 ++ T3) (to g1 (fun ro g2 => match vwp ro with
  | some (i, .dc es0, pl) => i = I ∧ T3.contains i = false ∧ ti g2 (fun ri g3 => match takes [r], ri with
    | some [d], .p y => (match kD y with
      | some k => es0.length < sizeLine ∧ ∃ es', putG es0 k d = es' ∧ N.nx (g3.set i (some (pl (.dc es'))))
      | none => False)
    | _, _ => False) N.ex
  | _ => False) N.ex)) N.ex : Prop)) (o0 :: g0) := rfl
theorem x_rGet2 {T2 T3 : List Nat} {to te tf : AE} {Q : R → Gm → Prop} {E : EX} {g0 : Gm} {o0 : Option O} : rGet2 T2 T3 to te tf (o0 :: g0) Q E = (fun (g : Gm) => (to g (fun ro g1 => match dat ro with
  | some (.dict es) => grd ro (T2 ++ T3) (te g1 (fun re g2 => match re with
    | .p y => tf g2 (fun rf g3 => match rf with
      | .p d => (match kD y with
        | some k => Q (.p ((valD es k).getD d)) g3
        | none => False)
      | _ => False) E
    | _ => False) E)
  | _ => False) E : Prop)) (o0 :: g0) := rfl
theorem x_rEnum {te : AE} {Q : List D → List Nat → Gm → Prop} {E : EX} {g0 : Gm} {o0 : Option O} : rEnum te (o0 :: g0) Q E = (fun (g : Gm) => (te g (fun r g1 => match datu r with
  | some (.list ds) => Q (enumD ds) (slots1 r) g1
  | _ => False) E : Prop)) (o0 :: g0) := rfl
section
variable {d e : D} {g0 : Gm} {o0 : Option O} {k : R → Prop} {i j : Int} {x y : Str} {xs ys ds : List D} {n m : Nat} {es : List (D × D)}
theorem x_ixX_ds : aIxX [.dict es, .str x] k = ∃ d, valD es (.inr x) = some d ∧ k (.p d) := rfl
theorem x_ixX_di : aIxX [.dict es, .int i] k = ∃ d, valD es (.inl i) = some d ∧ k (.p d) := rfl
theorem x_ixX_l : aIxX [.list xs, .int i] k = ∃ d, L2.atI xs i = some d ∧ k (.p d) := rfl
theorem x_ixX_t : aIxX [.tuple xs, .int i] k = ∃ d, L2.atI xs i = some d ∧ k (.p d) := rfl
theorem x_ixX_s : aIxX [.str x, .int i] k = (x.length ≤ sizeLine ∧ ∃ c, L2.atI x.cps.toList i = some c ∧ k (.p (.str ⟨#[c]⟩))) := rfl
theorem x_inX_ds {f : Bool → Bool} : aInX f [.str x, .dict es] k = k (.p (.bool (f (valD es (.inr x)).isSome))) := rfl
theorem x_inX_di {f : Bool → Bool} : aInX f [.int i, .dict es] k = k (.p (.bool (f (valD es (.inl i)).isSome))) := rfl
theorem x_inX_s {f : Bool → Bool} : aInX f [.str x, .str y] k = (x.length = 1 ∧ k (.p (.bool (f (decide (x.cps.getD 0 0 ∈ y.cps.toList)))))) := rfl
theorem x_inX_sl {f : Bool → Bool} : aInX f [.str x, .list ds] k = (inOk (.str x) ds = true ∧ k (.p (.bool (f (ds.any fun z => PyData.eqv z (.str x)))))) := rfl
theorem x_inX_il {f : Bool → Bool} : aInX f [.int i, .list ds] k = (inOk (.int i) ds = true ∧ k (.p (.bool (f (ds.any fun z => PyData.eqv z (.int i)))))) := rfl
theorem x_inX_tl {f : Bool → Bool} : aInX f [.tuple xs, .list ds] k = (inOk (.tuple xs) ds = true ∧ k (.p (.bool (f (ds.any fun z => PyData.eqv z (.tuple xs)))))) := rfl
theorem x_inX_st {f : Bool → Bool} : aInX f [.str x, .tuple ds] k = (isFlat (.str x) = true ∧ ds.all isFlat = true ∧ k (.p (.bool (f (ds.any fun z => PyData.eqv z (.str x)))))) := rfl
theorem x_inX_it {f : Bool → Bool} : aInX f [.int i, .tuple ds] k = (isFlat (.int i) = true ∧ ds.all isFlat = true ∧ k (.p (.bool (f (ds.any fun z => PyData.eqv z (.int i)))))) := rfl
theorem x_lenX_d : aLenX [.dict es] k = k (.p (.int es.length)) := rfl
theorem x_lenX_s : aLenX [.str x] k = (x.length ≤ sizeLine ∧ k (.p (.int x.length))) := rfl
theorem x_lenX_l : aLenX [.list xs] k = k (.p (.int xs.length)) := rfl
theorem x_lenX_t : aLenX [.tuple xs] k = k (.p (.int xs.length)) := rfl
theorem x_mulY_t : aMulY [.tuple ds, .int i] k = ((i = 0 ∨ i = 1) ∧ k (.p (.tuple (if i = 1 then ds else [])))) := rfl
theorem x_mulY_i : aMulY [.int i, .int j] k = (CMul i j ∧ k (.p (.int (i * j)))) := rfl
theorem x_mulY_s : aMulY [.str x, .int j] k = (MulOk x j ∧ k (.p (.str (Txt.mul x j)))) := rfl
theorem x_kD_i : kD (.int i) = some (.inl i) := rfl
theorem x_kD_s : kD (.str x) = some (.inr x) := rfl
theorem x_kP_i : kP (.inl i) = .int i := rfl
theorem x_kP_s : kP (.inr x) = .str x := rfl
theorem x_zip1 {α β : Type} {a : α} {as : List α} {b : β} {bs : List β} : (a :: as).zip (b :: bs) = (a, b) :: as.zip bs := rfl
theorem x_zip0 {α β : Type} {bs : List β} : ([] : List α).zip bs = [] := rfl
theorem x_mClear {es : List D} {k : D → List D → Prop} : mClear es [] k = k .none [] := rfl
theorem x_mReverse {es : List D} {k : D → List D → Prop} : mReverse es [] k = k .none es.reverse := rfl
theorem x_enum0 : enumD [] = [] := rfl
/-! what stands at the keys of a dict that is written out -/
theorem dv_hit {K : D → Prop} {q : D} {c : Key} (h : kD q = some c) (k : K d) : ∃ z, valD ((q, d) :: es) c = some z ∧ K z := ⟨d, valD_pos h, k⟩
theorem dv_miss {K : D → Prop} {q : D} {c : Key} (h : ¬ kD q = some c) (k : ∃ z, valD es c = some z ∧ K z) : ∃ z, valD ((q, d) :: es) c = some z ∧ K z := by
  rw [valD_neg h]; exact k
theorem putG_hit {c : Key} {v : D} {es : List (Key × D)} (h : c ∉ es.map (·.1)) : putG ((c, d) :: es) c v = (c, v) :: es := by
  unfold putG
  rw [if_pos (by simp)]
  rw [List.map_cons, if_pos rfl]
  congr 1
  have : ∀ {l : List (Key × D)}, c ∉ l.map (·.1) → (l.map fun kv => if kv.1 = c then (kv.1, v) else kv) = l := by
    intro l
    induction l with
    | nil => intro _; rfl
    | cons a l ih =>
      intro hl
      simp only [List.map_cons, List.mem_cons, not_or] at hl
      rw [List.map_cons, ih hl.2, if_neg (fun z => hl.1 z.symm)]
  exact this h
theorem putG_miss {c q : Key} {v : D} {es : List (Key × D)} (h : ¬ q = c) : putG ((q, d) :: es) c v = (q, d) :: putG es c v := by
  unfold putG
  by_cases z : (es.any fun kv => decide (kv.1 = c)) = true
  · rw [if_pos z, if_pos (by rw [List.any_cons, z]; simp), List.map_cons, if_neg h]
  · rw [if_neg z, if_neg (by rw [List.any_cons, decide_eq_false h, Bool.false_or]; exact z)]
    rfl
end
end VL

namespace VL
open PySem PySem.Spec PyProof.Rows L2
theorem u1 {k : Nat} {A : Around} (r : Room k A) : A.units + 1 < cLine := by have := r.un; omega

/-! ### 49. Rows of programs -/
inductive Row
  | set (m x : Str) (t : Tr)
  | tell (m : Str) (t : Tr)
  | ifr (m : Str) (t : Tr) (a b : List Row)
  | whl (m : Str) (t : Tr) (a : List Row)
  | tms (m : Str) (t : Tr) (a : List Row)
mutual
def Row.d : Row → D
  | .set m x t => .tuple [.str "set", .str m, .str x, t.d]
  | .tell m t => .tuple [.str "tell", .str m, t.d]
  | .ifr m t a b => .tuple [.str "if", .str m, t.d, .tuple (rowsD a), .tuple (rowsD b)]
  | .whl m t a => .tuple [.str "while", .str m, t.d, .tuple (rowsD a)]
  | .tms m t a => .tuple [.str "times", .str m, t.d, .tuple (rowsD a)]
def rowsD : List Row → List D
  | [] => []
  | r :: rs => r.d :: rowsD rs
end
theorem rowsD_map : ∀ rs : List Row, rowsD rs = rs.map Row.d
  | [] => by rw [rowsD]; rfl
  | r :: rs => by rw [rowsD, rowsD_map rs]; rfl
def Row.mk : Row → Str
  | .set m _ _ => m
  | .tell m _ => m
  | .ifr m _ _ _ => m
  | .whl m _ _ => m
  | .tms m _ _ => m
def Row.tm : Row → Tr
  | .set _ _ t => t
  | .tell _ t => t
  | .ifr _ t _ _ => t
  | .whl _ t _ => t
  | .tms _ t _ => t
def Row.bodies : Row → List (List Row)
  | .ifr _ _ a b => [a, b]
  | .whl _ _ a => [a]
  | .tms _ _ a => [a]
  | _ => []
def Row.word : Row → Str
  | .set _ _ _ => "set"
  | .tell _ _ => "tell"
  | .ifr _ _ _ _ => "if"
  | .whl _ _ _ => "while"
  | .tms _ _ _ => "times"
mutual
/-- a row and all in it, in order -/
def Row.all : Row → List Row
  | .set m x t => [.set m x t]
  | .tell m t => [.tell m t]
  | .ifr m t a b => .ifr m t a b :: (allR a ++ allR b)
  | .whl m t a => .whl m t a :: allR a
  | .tms m t a => .tms m t a :: allR a
def allR : List Row → List Row
  | [] => []
  | r :: rs => r.all ++ allR rs
end
mutual
def Row.depth : Row → Nat
  | .set _ _ _ => 1
  | .tell _ _ => 1
  | .ifr _ _ a b => 1 + max (depthR a) (depthR b)
  | .whl _ _ a => 1 + depthR a
  | .tms _ _ a => 1 + depthR a
def depthR : List Row → Nat
  | [] => 0
  | r :: rs => max r.depth (depthR rs)
end
theorem allR_nil : allR [] = [] := by rw [allR]
theorem allR_cons (r : Row) (rs : List Row) : allR (r :: rs) = r.all ++ allR rs := by rw [allR]
theorem allR_app : ∀ (a b : List Row), allR (a ++ b) = allR a ++ allR b
  | [], b => by rw [allR_nil]; rfl
  | r :: a, b => by rw [List.cons_append, allR_cons, allR_cons, allR_app a b, List.append_assoc]
theorem depthR_nil : depthR [] = 0 := by rw [depthR]
theorem depthR_cons (r : Row) (rs : List Row) : depthR (r :: rs) = max r.depth (depthR rs) := by rw [depthR]
theorem depthR_app : ∀ (a b : List Row), depthR (a ++ b) = max (depthR a) (depthR b)
  | [], b => by rw [depthR_nil]; simp
  | r :: a, b => by rw [List.cons_append, depthR_cons, depthR_cons, depthR_app a b]; omega
theorem Row.pos : ∀ r : Row, 1 ≤ r.all.length
  | .set _ _ _ => by rw [Row.all]; exact Nat.le_refl _
  | .tell _ _ => by rw [Row.all]; exact Nat.le_refl _
  | .ifr _ _ _ _ => by rw [Row.all]; simp
  | .whl _ _ _ => by rw [Row.all]; simp
  | .tms _ _ _ => by rw [Row.all]; simp
theorem Row.self (r : Row) : r ∈ r.all := by cases r <;> rw [Row.all] <;> simp
theorem len_allR : ∀ rs : List Row, rs.length ≤ (allR rs).length
  | [] => by simp
  | r :: rs => by
    have := Row.pos r
    have := len_allR rs
    rw [allR_cons, List.length_append, List.length_cons]; omega
/-- of the forms, its cells from cs -/
structure RowOk (cs : List Str) (r : Row) : Prop where
  tm : r.tm.ok (· ∈ cs)
  dn : r.tm.down ≤ 4
  pt : r.tm.parts.length ≤ 9
  cel : ∀ m x t, r = .set m x t → x ∈ cs
def seg {α : Type} (ms : List α) (lo hi : Nat) : List α := (ms.drop lo).take (hi - lo)
theorem seg_self {α : Type} (ms : List α) (lo : Nat) : seg ms lo lo = [] := by unfold seg; simp
theorem seg_cons {α : Type} {ms : List α} {lo hi : Nat} {m : α} (h : lo < hi) (e : ms[lo]? = some m) : seg ms lo hi = m :: seg ms (lo + 1) hi := by
  obtain ⟨hl, e⟩ := List.getElem?_eq_some_iff.mp e
  unfold seg
  rw [List.drop_eq_getElem_cons hl, e, show hi - lo = (hi - (lo + 1)) + 1 by omega, List.take_succ_cons]
theorem seg_app {α : Type} {ms : List α} {lo mid hi : Nat} (h1 : lo ≤ mid) (h2 : mid ≤ hi) : seg ms lo hi = seg ms lo mid ++ seg ms mid hi := by
  unfold seg
  rw [show hi - lo = (mid - lo) + (hi - mid) by omega, List.take_add, List.drop_drop, show lo + (mid - lo) = mid by omega]
theorem seg_len {α : Type} {ms : List α} {lo hi : Nat} : (seg ms lo hi).length ≤ hi - lo := by unfold seg; rw [List.length_take]; omega
/-- rows built of the marks from lo up to hi -/
structure RowsIn (cs ms : List Str) (lo hi dp : Nat) (rs : List Row) : Prop where
  le : lo ≤ hi
  mks : ((allR rs).map Row.mk).Sublist (seg ms lo hi)
  ok : ∀ r ∈ allR rs, RowOk cs r
  dp : depthR rs ≤ dp
section
variable {cs ms : List Str} {lo mid hi d d2 : Nat} {a b : List Row}
theorem RowsIn.nil : RowsIn cs ms lo lo d [] := ⟨Nat.le_refl _, by rw [allR_nil, seg_self]; exact List.Sublist.refl _, fun r m => (by rw [allR_nil] at m; cases m), by rw [depthR_nil]; exact Nat.zero_le _⟩
theorem RowsIn.nil2 (h : lo ≤ hi) : RowsIn cs ms lo hi d [] := ⟨h, by rw [allR_nil]; exact List.nil_sublist _, fun r m => (by rw [allR_nil] at m; cases m), by rw [depthR_nil]; exact Nat.zero_le _⟩
theorem RowsIn.app (h : RowsIn cs ms lo mid d a) (h2 : RowsIn cs ms mid hi d b) : RowsIn cs ms lo hi d (a ++ b) where
  le := Nat.le_trans h.le h2.le
  mks := by rw [allR_app, List.map_append, seg_app h.le h2.le]; exact h.mks.append h2.mks
  ok := fun r m => by
    rw [allR_app] at m
    rcases List.mem_append.mp m with m | m
    · exact h.ok r m
    · exact h2.ok r m
  dp := by rw [depthR_app]; have := h.dp; have := h2.dp; omega
theorem RowsIn.mono (h : RowsIn cs ms lo hi d a) (hd : d ≤ d2) : RowsIn cs ms lo hi d2 a := ⟨h.le, h.mks, h.ok, Nat.le_trans h.dp hd⟩
theorem RowsIn.len (h : RowsIn cs ms lo hi d a) : (allR a).length ≤ hi - lo := by
  have := h.mks.length_le
  rw [List.length_map] at this
  exact Nat.le_trans this seg_len
theorem all_one (r : Row) : allR [r] = r.all := by rw [allR_cons, allR_nil, List.append_nil]
theorem depth_one (r : Row) : depthR [r] = r.depth := by rw [depthR_cons, depthR_nil]; omega
/-- one row more: its own mark, then the bodies' -/
theorem RowsIn.row {r : Row} (h : RowsIn cs ms (lo + 1) hi d a) (e : ms[lo]? = some r.mk) (ea : r.all = r :: allR a) (ok : RowOk cs r) (ed : r.depth ≤ 1 + depthR a) : RowsIn cs ms lo hi (d + 1) [r] where
  le := by have := h.le; omega
  mks := by
    rw [all_one, ea, seg_cons (by have := h.le; omega) e]
    exact h.mks.cons_cons _
  ok := fun x m => by
    rw [all_one, ea] at m
    rcases List.mem_cons.mp m with rfl | m
    · exact ok
    · exact h.ok x m
  dp := by rw [depth_one]; have := h.dp; omega
end

section
variable {cs ms : List Str} {u u1 u2 : Int} {d d1 : Nat} {m x m2 : Str} {t : Tr} {a b : List Row} {r : Int}
theorem hu1 (h : 0 ≤ u) : (u + 1).toNat = u.toNat + 1 := by omega
theorem rowsD_app : ∀ (a b : List Row), rowsD (a ++ b) = rowsD a ++ rowsD b := fun a b => by rw [rowsD_map, rowsD_map, rowsD_map, List.map_append]
theorem rowsD_nil : rowsD [] = [] := by rw [rowsD]
theorem rowsD_one {r : Row} : rowsD [r] = [r.d] := by rw [rowsD, rowsD_nil]
theorem rowsD_len : (rowsD a).length = a.length := by rw [rowsD_map, List.length_map]
theorem rowsD_ite : (if r = 1 then rowsD b else []) = rowsD (if r = 1 then b else []) := by split <;> simp [rowsD_nil]
theorem row_set (h : 0 ≤ u) (me : ms[u.toNat]? = some m) (mx : x ∈ cs) (t1 : (t.down : Int) ≤ 4) (t2 : (t.parts.length : Int) ≤ 9) (t3 : t.ok (· ∈ cs)) : RowsIn cs ms u.toNat (u + 1).toNat (d + 1) [.set m x t] := by
  rw [hu1 h]
  exact RowsIn.row (a := []) .nil me (by rw [Row.all, allR_nil]) ⟨t3, by show t.down ≤ 4; omega, by show t.parts.length ≤ 9; omega, fun _ _ _ e => by cases e; exact mx⟩ (by rw [Row.depth]; omega)
theorem row_tell (h : 0 ≤ u) (me : ms[u.toNat]? = some m) (t1 : (t.down : Int) ≤ 4) (t2 : (t.parts.length : Int) ≤ 9) (t3 : t.ok (· ∈ cs)) : RowsIn cs ms u.toNat (u + 1).toNat (d + 1) [.tell m t] := by
  rw [hu1 h]
  exact RowsIn.row (a := []) .nil me (by rw [Row.all, allR_nil]) ⟨t3, by show t.down ≤ 4; omega, by show t.parts.length ≤ 9; omega, fun _ _ _ e => by cases e⟩ (by rw [Row.depth]; omega)
theorem row_if (h : 0 ≤ u) (me : ms[u.toNat]? = some m) (t1 : (t.down : Int) ≤ 4) (t2 : (t.parts.length : Int) ≤ 9) (t3 : t.ok (· ∈ cs)) (ra : RowsIn cs ms (u + 1).toNat u1.toNat d a) (rb : RowsIn cs ms u1.toNat u2.toNat d b) (hd : d ≤ d1) :
    RowsIn cs ms u.toNat u2.toNat (d1 + 1) [.ifr m t a b] := by
  rw [hu1 h] at ra
  have := (ra.app rb).mono hd
  exact RowsIn.row this me (by rw [Row.all, allR_app]) ⟨t3, by show t.down ≤ 4; omega, by show t.parts.length ≤ 9; omega, fun _ _ _ e => by cases e⟩ (by rw [Row.depth, depthR_app]; omega)
theorem row_if01 (h : 0 ≤ u) (me : ms[u.toNat]? = some m) (t1 : (t.down : Int) ≤ 4) (t2 : (t.parts.length : Int) ≤ 9) (t3 : t.ok (· ∈ cs)) (ra : RowsIn cs ms (u + 1).toNat u1.toNat d a) (rb : RowsIn cs ms u1.toNat u2.toNat d b) (hd : d ≤ d1) :
    RowsIn cs ms u.toNat u2.toNat (d1 + 1) [.ifr m t a (if r = 1 then b else [])] := by
  refine row_if h me t1 t2 t3 ra ?_ hd
  split
  · exact rb
  · exact .nil2 rb.le
theorem row_whl (h : 0 ≤ u) (me : ms[u.toNat]? = some m) (t1 : (t.down : Int) ≤ 4) (t2 : (t.parts.length : Int) ≤ 9) (t3 : t.ok (· ∈ cs)) (ra : RowsIn cs ms (u + 1).toNat u1.toNat d a) (hd : d ≤ d1) : RowsIn cs ms u.toNat u1.toNat (d1 + 1) [.whl m t a] := by
  rw [hu1 h] at ra
  exact RowsIn.row (ra.mono hd) me (by rw [Row.all]) ⟨t3, by show t.down ≤ 4; omega, by show t.parts.length ≤ 9; omega, fun _ _ _ e => by cases e⟩ (by rw [Row.depth]; omega)
theorem row_tms (h : 0 ≤ u) (me : ms[u.toNat]? = some m) (t1 : (t.down : Int) ≤ 4) (t2 : (t.parts.length : Int) ≤ 9) (t3 : t.ok (· ∈ cs)) (ra : RowsIn cs ms (u + 1).toNat u1.toNat d a) (hd : d ≤ d1) : RowsIn cs ms u.toNat u1.toNat (d1 + 1) [.tms m t a] := by
  rw [hu1 h] at ra
  exact RowsIn.row (ra.mono hd) me (by rw [Row.all]) ⟨t3, by show t.down ≤ 4; omega, by show t.parts.length ≤ 9; omega, fun _ _ _ e => by cases e⟩ (by rw [Row.depth]; omega)
theorem row_whl2 (h : 0 ≤ u) (h1 : 0 ≤ u1) (me : ms[u.toNat]? = some m) (me2 : ms[u1.toNat]? = some m2) (mx : x ∈ cs) (ra : RowsIn cs ms (u + 1).toNat u1.toNat d a) (hd : d ≤ d1) (h2 : 1 ≤ d1) :
    RowsIn cs ms u.toNat (u1 + 1).toNat (d1 + 1) [.whl m (.cel x) (a ++ [.set m2 x (.op 45 (.cel x) (.op 60 (.num 0) (.cel x)))])] := by
  rw [hu1 h] at ra
  have rb : RowsIn cs ms u1.toNat (u1 + 1).toNat (d1 - 1 + 1) [.set m2 x (.op 45 (.cel x) (.op 60 (.num 0) (.cel x)))] := row_set h1 me2 mx (by simp [Tr.down]) (by simp [Tr.parts]) ⟨by decide, mx, by decide, ⟨by decide, by decide⟩, mx⟩
  rw [show d1 - 1 + 1 = d1 by omega] at rb
  exact RowsIn.row ((ra.mono hd).app rb) me (by rw [Row.all]) ⟨mx, by show (0 : Nat) ≤ 4; decide, by show (1 : Nat) ≤ 9; decide, fun _ _ _ e => by cases e⟩ (by rw [Row.depth]; omega)
theorem RowsIn.rlen {lo hi : Nat} (h : RowsIn cs ms lo hi d a) : a.length ≤ hi - lo := Nat.le_trans (len_allR a) h.len
theorem lt_sg : Str.ofString "<" = sg 60 := by decide +kernel
theorem minus_sg : Str.ofString "-" = sg 45 := by decide +kernel
theorem less_fold : rowsD a ++ [PyData.tuple [.str "set", .str m, .str x, .tuple [.str "op", .str "-", .tuple [.str "cell", .str x], .tuple [.str "op", .str "<", .tuple [.str "num", .int 0], .tuple [.str "cell", .str x]]]]] =
    rowsD (a ++ [.set m x (.op 45 (.cel x) (.op 60 (.num 0) (.cel x)))]) := by
  rw [rowsD_app, rowsD_one, lt_sg, minus_sg]; rfl
theorem lt_fold : PyData.tuple [.str "op", .str "<", .tuple [.str "cell", .str x], .tuple [.str "num", .int r]] = (Tr.op 60 (.cel x) (.num r)).d := by rw [lt_sg]; rfl
theorem ix_i2 {K : D → Prop} {p q i : Int} (h0 : 0 ≤ i) (h : i < 2) (k : ∀ v : Int, v = p ∨ v = q → K (.int v)) : ∃ c, L2.atI [PyData.int p, .int q] i = some c ∧ K c :=
  ix_cons h0 (fun _ => k _ (.inl rfl)) fun _ => ix_cons (by omega) (fun _ => k _ (.inr rfl)) fun _ => ix_nil (by omega)
theorem ix_i3 {K : D → Prop} {p q r i : Int} (h0 : 0 ≤ i) (h : i < 3) (k : ∀ v : Int, v = p ∨ v = q ∨ v = r → K (.int v)) : ∃ c, L2.atI [PyData.int p, .int q, .int r] i = some c ∧ K c :=
  ix_cons h0 (fun _ => k _ (.inl rfl)) fun _ => ix_cons (by omega) (fun _ => k _ (.inr (.inl rfl))) fun _ => ix_cons (by omega) (fun _ => k _ (.inr (.inr rfl))) fun _ => ix_nil (by omega)
theorem ix_i6 {K : D → Prop} {p q r x y z i : Int} (h0 : 0 ≤ i) (h : i < 6) (k : ∀ v : Int, v = p ∨ v = q ∨ v = r ∨ v = x ∨ v = y ∨ v = z → K (.int v)) : ∃ c, L2.atI [PyData.int p, .int q, .int r, .int x, .int y, .int z] i = some c ∧ K c :=
  ix_cons h0 (fun _ => k _ (.inl rfl)) fun _ => ix_cons (by omega) (fun _ => k _ (.inr (.inl rfl))) fun _ => ix_cons (by omega) (fun _ => k _ (.inr (.inr (.inl rfl)))) fun _ =>
    ix_cons (by omega) (fun _ => k _ (.inr (.inr (.inr (.inl rfl))))) fun _ => ix_cons (by omega) (fun _ => k _ (.inr (.inr (.inr (.inr (.inl rfl)))))) fun _ => ix_cons (by omega) (fun _ => k _ (.inr (.inr (.inr (.inr (.inr rfl)))))) fun _ => ix_nil (by omega)
end

/-! ### 50. The scene of a program that is drawn -/
def sceneL (cs ms : List Str) (u : Int) : List (Key × D) := [(.inr "cells", .list (cs.map .str)), (.inr "marks", .list (ms.map .str)), (.inr "used", .int u)]
structure Scene (cs ms : List Str) : Prop where
  cn : Names cs
  mn : Names ms
  ml : ms.length = 22
  c1 : 1 ≤ cs.length
  c4 : cs.length ≤ 4
theorem put_scene {cs ms : List Str} {u v : Int} : putG (sceneL cs ms u) (.inr "used") (.int v) = sceneL cs ms v := by
  unfold sceneL
  rw [putG_miss (by decide +kernel), putG_miss (by decide +kernel), putG_hit (by simp)]
theorem x_scene_map {cs ms : List Str} {u : Int} : (sceneL cs ms u).map (fun q => (kP q.1, q.2)) = [(.str "cells", .list (cs.map .str)), (.str "marks", .list (ms.map .str)), (.str "used", .int u)] := rfl
theorem x_scene_len {cs ms : List Str} {u : Int} : (sceneL cs ms u).length = 3 := rfl
theorem Names.sub {ws us : List Str} (h : Names ws) (s : us.Sublist ws) : Names us := ⟨h.nd.sublist s, fun w m => h.nm w (s.subset m)⟩
theorem cut_sub {α : Type} {xs : List α} {lo hi : Option Int} : (VL.cutD xs lo hi).Sublist xs := (List.take_sublist _ _).trans (List.drop_sublist _ _)
theorem sIx_some {n d : Nat} {i : Int} (h : 0 ≤ i) : HT.sIx n d (some i) = min i.toNat n := by
  show (if i < 0 then _ else _) = _
  rw [if_neg (by omega)]
theorem cut_len_hi {α : Type} {xs : List α} {i : Int} (h : 0 ≤ i) : (VL.cutD xs none (some i)).length = min i.toNat xs.length := by
  unfold VL.cutD
  rw [HT.sIx_none, sIx_some h, List.length_take, List.length_drop]
  omega
theorem cut_len_lh {α : Type} {xs : List α} {i j : Int} (h : 0 ≤ i) (h2 : 0 ≤ j) : (VL.cutD xs (some i) (some j)).length = min j.toNat xs.length - min i.toNat xs.length := by
  unfold VL.cutD
  rw [sIx_some h, sIx_some h2, List.length_take, List.length_drop]
  omega
theorem eqv_int (x y : Int) : PyData.eqv (.int x) (.int y) = decide (x = y) := by
  simp [PyData.eqv]
  try rfl
theorem six_of7 {c : Nat} (h : c ∈ (Str.ofString "++-*:<=").cps.toList) : c ∈ sixL := by
  have e : (Str.ofString "++-*:<=").cps.toList = 43 :: sixL := by decide +kernel
  rw [e] at h
  rcases List.mem_cons.mp h with rfl | h
  · decide
  · exact h
def sp_law_scene : ASp := fun os k kx => ∃ a b, os = [.ls [.int a, .int b]] ∧ ∀ (cs ms : List Str) a' b', Scene cs ms → k (.ow (.dc (sceneL cs ms 0))) [.ls [.int a', .int b']]
def sp_law_mark : ASp := fun os k kx => ∃ cs ms u, os = [.dc (sceneL cs ms u)] ∧ 0 ≤ u ∧ u < (ms.length : Int) ∧ ms.length ≤ 100 ∧ ∀ m, ms[u.toNat]? = some m → k (.p (.str m)) [.dc (sceneL cs ms (u + 1))]
def sp_law_term (n : Nat) : ASp := fun os k kx => ∃ (a b : Int) (cs ms : List Str) (u rm dn : Int), os = [.ls [.int a, .int b], .dc (sceneL cs ms u), .p (.int rm), .p (.int dn)] ∧ 1 ≤ cs.length ∧ cs.length ≤ 4 ∧ 1 ≤ rm ∧ rm ≤ 9 ∧ 0 ≤ dn ∧ dn < (n : Int) ∧
  ∀ (t : Tr) (a' b' : Int), (t.down : Int) ≤ dn → (t.parts.length : Int) ≤ rm → t.ok (· ∈ cs) → k (.p t.d) [.ls [.int a', .int b'], .dc (sceneL cs ms u), .p (.int rm), .p (.int dn)]
def sp_law_row (n : Nat) : ASp := fun os k kx => ∃ (a b : Int) (cs ms : List Str) (u lf dn : Int), os = [.ls [.int a, .int b], .dc (sceneL cs ms u), .ls [.int lf], .p (.int dn)] ∧ Scene cs ms ∧ 0 ≤ u ∧ 1 ≤ lf ∧ u + lf ≤ 22 ∧ 0 ≤ dn ∧ dn < (n : Int) ∧
  ∀ (r : Row) (a' b' u' lf' : Int), 0 ≤ lf' → u' + lf' = u + lf → RowsIn cs ms u.toNat u'.toNat (dn.toNat + 1) [r] → u < u' → k (.p r.d) [.ls [.int a', .int b'], .dc (sceneL cs ms u'), .ls [.int lf'], .p (.int dn)]
def sp_law_body (n : Nat) : ASp := fun os k kx => ∃ (a b : Int) (cs ms : List Str) (u lf dn : Int), os = [.ls [.int a, .int b], .dc (sceneL cs ms u), .ls [.int lf], .p (.int dn)] ∧ Scene cs ms ∧ 0 ≤ u ∧ 0 ≤ lf ∧ u + lf ≤ 22 ∧ 0 ≤ dn ∧ dn < (n : Int) ∧
  ∀ (rs : List Row) (a' b' u' lf' : Int), 0 ≤ lf' → u' + lf' = u + lf → RowsIn cs ms u.toNat u'.toNat (dn.toNat + 1) rs → u ≤ u' → (rs = [] → u' = u) → k (.p (.tuple (rowsD rs))) [.ls [.int a', .int b'], .dc (sceneL cs ms u'), .ls [.int lf'], .p (.int dn)]
/-- a program that may be handed in -/
structure Pg (p : List Row) : Prop where
  ex : ∃ cs ms hi, Scene cs ms ∧ RowsIn cs ms 0 hi 4 p ∧ hi ≤ 22
  len : (allR p).length ≤ 16
def sp_law_program : ASp := fun os k kx => ∃ (a b : Int) (cs ms : List Str) (rm : Int), os = [.ls [.int a, .int b], .dc (sceneL cs ms 0), .p (.int rm)] ∧ Scene cs ms ∧ 1 ≤ rm ∧ rm ≤ 22 ∧
  ∀ (rs : List Row) (a' b' u' : Int), 0 ≤ u' → u' ≤ rm → RowsIn cs ms (0 : Int).toNat u'.toNat 4 rs → rs ≠ [] → k (.p (.tuple (rowsD rs))) [.ls [.int a', .int b'], .dc (sceneL cs ms u'), .p (.int rm)]
section
variable {m x : Str} {t : Tr} {a b : List Row}
theorem x_Row_set : (Row.set m x t).d = .tuple [.str "set", .str m, .str x, t.d] := rfl
theorem x_Row_tell : (Row.tell m t).d = .tuple [.str "tell", .str m, t.d] := rfl
theorem x_Row_ifr : (Row.ifr m t a b).d = .tuple [.str "if", .str m, t.d, .tuple (rowsD a), .tuple (rowsD b)] := rfl
theorem x_Row_whl : (Row.whl m t a).d = .tuple [.str "while", .str m, t.d, .tuple (rowsD a)] := rfl
theorem x_Row_tms : (Row.tms m t a).d = .tuple [.str "times", .str m, t.d, .tuple (rowsD a)] := rfl
end
end VL

namespace VL
open PySem PySem.Spec PyProof.Rows L2

/-! ### 51. Bodies, all rows, marks -/
section
variable {m x : Str} {t : Tr} {a b : List Row}
theorem x_bod_set : (Row.set m x t).bodies = [] := rfl
theorem x_bod_tell : (Row.tell m t).bodies = [] := rfl
theorem x_bod_ifr : (Row.ifr m t a b).bodies = [a, b] := rfl
theorem x_bod_whl : (Row.whl m t a).bodies = [a] := rfl
theorem x_bod_tms : (Row.tms m t a).bodies = [a] := rfl
theorem x_enum1 {d : D} : enumD [d] = [.tuple [.int 0, d]] := rfl
theorem x_enum2 {d e : D} : enumD [d, e] = [.tuple [.int 0, d], .tuple [.int 1, e]] := rfl
theorem x_depth_ifr : (Row.ifr m t a b).depth = 1 + max (depthR a) (depthR b) := by rw [Row.depth]
theorem x_depth_whl : (Row.whl m t a).depth = 1 + depthR a := by rw [Row.depth]
theorem x_depth_tms : (Row.tms m t a).depth = 1 + depthR a := by rw [Row.depth]
end
def bodD (r : Row) : List D := r.bodies.map fun b => .tuple (rowsD b)
def sp_bodies_in : ASp := fun os k kx => ∃ r : Row, os = [.p r.d] ∧ k (.ow (.ls (r.bodies.map fun b => .tuple (rowsD b)))) [.p r.d]
def sp_law_bodies : ASp := sp_bodies_in
def sp_rows (n : Nat) : ASp := fun os k kx => ∃ p : List Row, os = [.p (.tuple (rowsD p))] ∧ depthR p < n ∧ (allR p).length ≤ 1000 ∧ k (.ow (.ls (rowsD (allR p)))) [.p (.tuple (rowsD p))]
def sp_marks (n : Nat) : ASp := fun os k kx => ∃ p : List Row, os = [.p (.tuple (rowsD p))] ∧ depthR p < n ∧ (allR p).length ≤ 1000 ∧ k (.ow (.ls (((allR p).map Row.mk).map PyData.str))) [.p (.tuple (rowsD p))]
section
variable {us ts p : List Row} {r : Row} {m x : Str} {t : Tr} {a b : List Row}
theorem split_facts (e : us ++ r :: ts = p) : r.depth ≤ depthR p ∧ (allR us).length + r.all.length ≤ (allR p).length := by
  subst e
  rw [depthR_app, depthR_cons, allR_app, allR_cons, List.length_append, List.length_append]
  omega
theorem all_snoc : rowsD (allR (us ++ [r])) = rowsD (allR us) ++ rowsD r.all := by rw [allR_app, all_one, rowsD_app]
theorem all_ifr : rowsD (allR (us ++ [.ifr m t a b])) = rowsD (allR us) ++ [(Row.ifr m t a b).d] ++ rowsD (allR a) ++ rowsD (allR b) := by
  rw [all_snoc, Row.all, rowsD, rowsD_app]; simp
theorem all_whl : rowsD (allR (us ++ [.whl m t a])) = rowsD (allR us) ++ [(Row.whl m t a).d] ++ rowsD (allR a) := by rw [all_snoc, Row.all, rowsD]; simp
theorem all_tms : rowsD (allR (us ++ [.tms m t a])) = rowsD (allR us) ++ [(Row.tms m t a).d] ++ rowsD (allR a) := by rw [all_snoc, Row.all, rowsD]; simp
theorem all_set : rowsD (allR (us ++ [.set m x t])) = rowsD (allR us) ++ [(Row.set m x t).d] := by rw [all_snoc, Row.all, rowsD, rowsD_nil]
theorem all_tell : rowsD (allR (us ++ [.tell m t])) = rowsD (allR us) ++ [(Row.tell m t).d] := by rw [all_snoc, Row.all, rowsD, rowsD_nil]
theorem al_ifr : (Row.ifr m t a b).all.length = 1 + (allR a).length + (allR b).length := by rw [Row.all, List.length_cons, List.length_append]; omega
theorem al_whl : (Row.whl m t a).all.length = 1 + (allR a).length := by rw [Row.all, List.length_cons]; omega
theorem al_tms : (Row.tms m t a).all.length = 1 + (allR a).length := by rw [Row.all, List.length_cons]; omega
theorem al_set : (Row.set m x t).all.length = 1 := by rw [Row.all]; rfl
theorem al_tell : (Row.tell m t).all.length = 1 := by rw [Row.all]; rfl
end
mutual
/-- the way to the row of a mark -/
def Row.way (m : Str) : Row → Option (List (Row × Nat))
  | .set n x t => if n = m then some [] else none
  | .tell n t => if n = m then some [] else none
  | .ifr n t a b => if n = m then some [] else match wayR m a with
    | some w => some ((.ifr n t a b, 0) :: w)
    | none => match wayR m b with
      | some w => some ((.ifr n t a b, 1) :: w)
      | none => none
  | .whl n t a => if n = m then some [] else match wayR m a with
    | some w => some ((.whl n t a, 0) :: w)
    | none => none
  | .tms n t a => if n = m then some [] else match wayR m a with
    | some w => some ((.tms n t a, 0) :: w)
    | none => none
def wayR (m : Str) : List Row → Option (List (Row × Nat))
  | [] => none
  | r :: rs => match r.way m with
    | some w => some w
    | none => wayR m rs
end
def wayD (w : List (Row × Nat)) : List D := w.map fun q => .tuple [q.1.d, .int (q.2 : Nat)]
def wayO : Option (List (Row × Nat)) → R
  | some w => .ow (.ls (wayD w))
  | none => .p .none
def sp_way_to (n : Nat) : ASp := fun os k kx => ∃ (p : List Row) (m : Str), os = [.p (.tuple (rowsD p)), .p (.str m)] ∧ depthR p < n ∧ (allR p).length ≤ 1000 ∧ k (wayO (wayR m p)) [.p (.tuple (rowsD p)), .p (.str m)]
theorem wayR_nil {m : Str} : wayR m [] = none := by rw [wayR]
theorem wayR_cons {m : Str} {r : Row} {rs : List Row} : wayR m (r :: rs) = match r.way m with
    | some w => some w
    | none => wayR m rs := by rw [wayR]
theorem x_wayO_some {w : List (Row × Nat)} : wayO (some w) = .ow (.ls (wayD w)) := rfl
theorem x_wayO_none : wayO none = .p .none := rfl
theorem wayD_len {w : List (Row × Nat)} : (wayD w).length = w.length := by unfold wayD; rw [List.length_map]
theorem wayD_snoc {w : List (Row × Nat)} {q : Row × Nat} : wayD (w ++ [q]) = wayD w ++ [.tuple [q.1.d, .int (q.2 : Nat)]] := by unfold wayD; rw [List.map_append]; rfl
mutual
theorem Row.way_len {m : Str} : ∀ {r : Row} {w : List (Row × Nat)}, r.way m = some w → w.length < r.all.length
  | .set n x t, w, e => by
    rw [Row.way] at e
    split at e
    · cases e; exact Row.pos _
    · cases e
  | .tell n t, w, e => by
    rw [Row.way] at e
    split at e
    · cases e; exact Row.pos _
    · cases e
  | .ifr n t a b, w, e => by
    rw [Row.way] at e
    rw [al_ifr]
    split at e
    · cases e; simp; omega
    · cases ha : wayR m a with
      | some w' =>
        rw [ha] at e
        cases e
        have := wayR_len ha
        rw [List.length_cons]; omega
      | none =>
        rw [ha] at e
        cases hb : wayR m b with
        | some w' =>
          rw [hb] at e
          cases e
          have := wayR_len hb
          rw [List.length_cons]; omega
        | none => rw [hb] at e; cases e
  | .whl n t a, w, e => by
    rw [Row.way] at e
    rw [al_whl]
    split at e
    · cases e; simp; omega
    · cases ha : wayR m a with
      | some w' =>
        rw [ha] at e
        cases e
        have := wayR_len ha
        rw [List.length_cons]; omega
      | none => rw [ha] at e; cases e
  | .tms n t a, w, e => by
    rw [Row.way] at e
    rw [al_tms]
    split at e
    · cases e; simp; omega
    · cases ha : wayR m a with
      | some w' =>
        rw [ha] at e
        cases e
        have := wayR_len ha
        rw [List.length_cons]; omega
      | none => rw [ha] at e; cases e
theorem wayR_len {m : Str} : ∀ {p : List Row} {w : List (Row × Nat)}, wayR m p = some w → w.length < (allR p).length
  | [], w, e => by rw [wayR] at e; cases e
  | r :: rs, w, e => by
    rw [wayR] at e
    rw [allR_cons, List.length_append]
    cases hr : r.way m with
    | some w' =>
      rw [hr] at e
      cases e
      have := Row.way_len hr
      omega
    | none =>
      rw [hr] at e
      have := wayR_len e
      omega
end
def spotD (w : List (Row × Nat)) : D := match w.getLast? with
  | none => .tuple [.str "", .int 0]
  | some q => .tuple [.str q.1.mk, .int (q.2 : Nat)]
def Row.isLoop : Row → Bool
  | .whl _ _ _ => true
  | .tms _ _ _ => true
  | _ => false
def loopsOf (w : List (Row × Nat)) : List Str := (w.filter fun q => q.1.isLoop).map fun q => q.1.mk
def sp_spot (n : Nat) : ASp := fun os k kx => ∃ (p : List Row) (m : Str) (w : List (Row × Nat)), os = [.p (.tuple (rowsD p)), .p (.str m)] ∧ wayR m p = some w ∧ depthR p < n ∧ (allR p).length ≤ 1000 ∧ k (.p (spotD w)) [.p (.tuple (rowsD p)), .p (.str m)]
def sp_loops (n : Nat) : ASp := fun os k kx => ∃ (p : List Row) (m : Str) (w : List (Row × Nat)), os = [.p (.tuple (rowsD p)), .p (.str m)] ∧ wayR m p = some w ∧ depthR p < n ∧ (allR p).length ≤ 1000 ∧ k (.p (.tuple ((loopsOf w).map PyData.str))) [.p (.tuple (rowsD p)), .p (.str m)]
theorem spotD_nil : spotD [] = .tuple [.str "", .int 0] := rfl
theorem spotD_snoc {w : List (Row × Nat)} {q : Row × Nat} : spotD (w ++ [q]) = .tuple [.str q.1.mk, .int (q.2 : Nat)] := by
  unfold spotD
  rw [List.getLast?_concat]
def loopsB (s : Str) : Bool := [PyData.str "while", PyData.str "times"].any fun z => PyData.eqv z (.str s)
theorem inl_set : loopsB "set" = false := by decide +kernel
theorem inl_tell : loopsB "tell" = false := by decide +kernel
theorem inl_ifr : loopsB "if" = false := by decide +kernel
theorem inl_whl : loopsB "while" = true := by decide +kernel
theorem inl_tms : loopsB "times" = true := by decide +kernel
theorem concat_cases {α : Type} (w : List α) : w = [] ∨ ∃ v q, w = v ++ [q] := by
  rcases List.eq_nil_or_concat w with h | ⟨v, q, h⟩
  · exact .inl h
  · exact .inr ⟨v, q, by rw [h, List.concat_eq_append]⟩
end VL

namespace VL
open PySem PySem.Spec PyProof.Rows L2

/-! ### 52. Rows may be compared and shown -/
structure RowLow (r : Row) : Prop where
  tm : r.tm.ok fun s => isLow s ∧ s.length ≤ 30
  dn : r.tm.down ≤ 4
  pt : r.tm.parts.length ≤ 9
  mkl : isLow r.mk ∧ r.mk.length ≤ 30
  cel : ∀ m x t, r = .set m x t → isLow x ∧ x.length ≤ 30
theorem word_nz : ∀ w : Str, (w = "set" ∨ w = "tell" ∨ w = "if" ∨ w = "while" ∨ w = "times") → Nz 0 5 (.str w) := by
  intro w h
  rcases h with rfl | rfl | rfl | rfl | rfl <;> exact (Nz.str (by decide +kernel)).mono (Nat.le_refl _) (by decide +kernel)
theorem mk_nz {m : Str} (h : isLow m ∧ m.length ≤ 30) : Nz 0 30 (.str m) := (Nz.str (low_ok h.1)).mono (Nat.le_refl _) h.2
theorem tm_nz {t : Tr} (h : t.ok fun s => isLow s ∧ s.length ≤ 30) (h1 : t.down ≤ 4) (h2 : t.parts.length ≤ 9) : Nz 5 450 t.d := (Tr.nz (fun _ q => q) h).mono (by omega) (by omega)
mutual
theorem Row.nz : ∀ (r : Row), (∀ x ∈ r.all, RowLow x) → Nz (2 * r.depth + 6) (700 * r.all.length - 1) r.d
  | .set m x t, h => by
    have q := h _ (Row.self _)
    rw [al_set, Row.depth]
    exact (Nz.tup (NzL.cons (word_nz "set" (.inl rfl)) (NzL.cons (mk_nz q.mkl) (NzL.cons (mk_nz (q.cel m x t rfl)) (NzL.cons (tm_nz q.tm q.dn q.pt) NzL.nil))))).mono (by decide) (by decide)
  | .tell m t, h => by
    have q := h _ (Row.self _)
    rw [al_tell, Row.depth]
    exact (Nz.tup (NzL.cons (word_nz "tell" (.inr (.inl rfl))) (NzL.cons (mk_nz q.mkl) (NzL.cons (tm_nz q.tm q.dn q.pt) NzL.nil)))).mono (by decide) (by decide)
  | .ifr m t a b, h => by
    have q := h _ (Row.self _)
    have ha := rows_nz a fun x mx => h x (by rw [Row.all]; simp [mx])
    have hb := rows_nz b fun x mx => h x (by rw [Row.all]; simp [mx])
    rw [al_ifr, Row.depth]
    exact (Nz.tup (NzL.cons (word_nz "if" (.inr (.inr (.inl rfl)))) (NzL.cons (mk_nz q.mkl) (NzL.cons (tm_nz q.tm q.dn q.pt) (NzL.cons (Nz.tup ha) (NzL.cons (Nz.tup hb) NzL.nil)))))).mono (by omega) (by omega)
  | .whl m t a, h => by
    have q := h _ (Row.self _)
    have ha := rows_nz a fun x mx => h x (by rw [Row.all]; simp [mx])
    rw [al_whl, Row.depth]
    exact (Nz.tup (NzL.cons (word_nz "while" (.inr (.inr (.inr (.inl rfl))))) (NzL.cons (mk_nz q.mkl) (NzL.cons (tm_nz q.tm q.dn q.pt) (NzL.cons (Nz.tup ha) NzL.nil))))).mono (by omega) (by omega)
  | .tms m t a, h => by
    have q := h _ (Row.self _)
    have ha := rows_nz a fun x mx => h x (by rw [Row.all]; simp [mx])
    rw [al_tms, Row.depth]
    exact (Nz.tup (NzL.cons (word_nz "times" (.inr (.inr (.inr (.inr rfl))))) (NzL.cons (mk_nz q.mkl) (NzL.cons (tm_nz q.tm q.dn q.pt) (NzL.cons (Nz.tup ha) NzL.nil))))).mono (by omega) (by omega)
theorem rows_nz : ∀ (rs : List Row), (∀ x ∈ allR rs, RowLow x) → NzL (2 * depthR rs + 6) (700 * (allR rs).length) (rowsD rs)
  | [], _ => by rw [rowsD_nil]; exact NzL.nil.mono (Nat.zero_le _) (Nat.zero_le _)
  | r :: rs, h => by
    have h1 := Row.nz r fun x mx => h x (by rw [allR_cons]; simp [mx])
    have h2 := rows_nz rs fun x mx => h x (by rw [allR_cons]; simp [mx])
    have := Row.pos r
    rw [rowsD, allR_cons, depthR_cons, List.length_append]
    exact (NzL.cons h1 h2).mono (by omega) (by omega)
end
/-- each row of a program stands in it, with all in it -/
theorem in_all : ∀ (rs : List Row) (r : Row), r ∈ allR rs → ∀ x ∈ r.all, x ∈ allR rs
  | [], r, m, x, mx => by rw [allR_nil] at m; cases m
  | .set n y t :: rs, r, m, x, mx => by
    rw [allR_cons] at m ⊢
    rw [Row.all] at m ⊢
    rcases List.mem_append.mp m with m | m
    · rw [List.mem_singleton.mp m, Row.all] at mx
      exact List.mem_append.mpr (.inl mx)
    · exact List.mem_append.mpr (.inr (in_all rs r m x mx))
  | .tell n t :: rs, r, m, x, mx => by
    rw [allR_cons] at m ⊢
    rw [Row.all] at m ⊢
    rcases List.mem_append.mp m with m | m
    · rw [List.mem_singleton.mp m, Row.all] at mx
      exact List.mem_append.mpr (.inl mx)
    · exact List.mem_append.mpr (.inr (in_all rs r m x mx))
  | .ifr n t a b :: rs, r, m, x, mx => by
    rw [allR_cons] at m ⊢
    rcases List.mem_append.mp m with m | m
    · refine List.mem_append.mpr (.inl ?_)
      rw [Row.all] at m ⊢
      rcases List.mem_cons.mp m with m | m
      · rw [m, Row.all] at mx; exact mx
      · refine List.mem_cons_of_mem _ ?_
        rcases List.mem_append.mp m with m | m
        · exact List.mem_append.mpr (.inl (in_all a r m x mx))
        · exact List.mem_append.mpr (.inr (in_all b r m x mx))
    · exact List.mem_append.mpr (.inr (in_all rs r m x mx))
  | .whl n t a :: rs, r, m, x, mx => by
    rw [allR_cons] at m ⊢
    rcases List.mem_append.mp m with m | m
    · refine List.mem_append.mpr (.inl ?_)
      rw [Row.all] at m ⊢
      rcases List.mem_cons.mp m with m | m
      · rw [m, Row.all] at mx; exact mx
      · exact List.mem_cons_of_mem _ (in_all a r m x mx)
    · exact List.mem_append.mpr (.inr (in_all rs r m x mx))
  | .tms n t a :: rs, r, m, x, mx => by
    rw [allR_cons] at m ⊢
    rcases List.mem_append.mp m with m | m
    · refine List.mem_append.mpr (.inl ?_)
      rw [Row.all] at m ⊢
      rcases List.mem_cons.mp m with m | m
      · rw [m, Row.all] at mx; exact mx
      · exact List.mem_cons_of_mem _ (in_all a r m x mx)
    · exact List.mem_append.mpr (.inr (in_all rs r m x mx))
theorem depth_in : ∀ (rs : List Row) (r : Row), r ∈ allR rs → r.depth ≤ depthR rs
  | [], r, m => by rw [allR_nil] at m; cases m
  | .set n y t :: rs, r, m => by
    rw [allR_cons] at m
    rw [depthR_cons]
    rcases List.mem_append.mp m with m | m
    · rw [Row.all] at m
      rw [List.mem_singleton.mp m]
      omega
    · have := depth_in rs r m
      omega
  | .tell n t :: rs, r, m => by
    rw [allR_cons] at m
    rw [depthR_cons]
    rcases List.mem_append.mp m with m | m
    · rw [Row.all] at m
      rw [List.mem_singleton.mp m]
      omega
    · have := depth_in rs r m
      omega
  | .ifr n t a b :: rs, r, m => by
    rw [allR_cons] at m
    rw [depthR_cons]
    rcases List.mem_append.mp m with m | m
    · rw [Row.all] at m
      rcases List.mem_cons.mp m with m | m
      · rw [m]; omega
      · rcases List.mem_append.mp m with m | m
        · have := depth_in a r m
          rw [Row.depth]
          omega
        · have := depth_in b r m
          rw [Row.depth]
          omega
    · have := depth_in rs r m
      omega
  | .whl n t a :: rs, r, m => by
    rw [allR_cons] at m
    rw [depthR_cons]
    rcases List.mem_append.mp m with m | m
    · rw [Row.all] at m
      rcases List.mem_cons.mp m with m | m
      · rw [m]; omega
      · have := depth_in a r m
        rw [Row.depth]
        omega
    · have := depth_in rs r m
      omega
  | .tms n t a :: rs, r, m => by
    rw [allR_cons] at m
    rw [depthR_cons]
    rcases List.mem_append.mp m with m | m
    · rw [Row.all] at m
      rcases List.mem_cons.mp m with m | m
      · rw [m]; omega
      · have := depth_in a r m
        rw [Row.depth]
        omega
    · have := depth_in rs r m
      omega
theorem len_in : ∀ (rs : List Row) (r : Row), r ∈ allR rs → r.all.length ≤ (allR rs).length
  | [], r, m => by rw [allR_nil] at m; cases m
  | .set n y t :: rs, r, m => by
    rw [allR_cons] at m
    rw [allR_cons, List.length_append]
    rcases List.mem_append.mp m with m | m
    · rw [Row.all] at m
      rw [List.mem_singleton.mp m]
      omega
    · have := len_in rs r m
      omega
  | .tell n t :: rs, r, m => by
    rw [allR_cons] at m
    rw [allR_cons, List.length_append]
    rcases List.mem_append.mp m with m | m
    · rw [Row.all] at m
      rw [List.mem_singleton.mp m]
      omega
    · have := len_in rs r m
      omega
  | .ifr n t a b :: rs, r, m => by
    rw [allR_cons] at m
    rw [allR_cons, List.length_append]
    rcases List.mem_append.mp m with m | m
    · rw [Row.all] at m
      rcases List.mem_cons.mp m with m | m
      · rw [m]; omega
      · rcases List.mem_append.mp m with m | m
        · have := len_in a r m
          first | rw [al_ifr] | rw [al_whl] | rw [al_tms]
          omega
        · have := len_in b r m
          first | rw [al_ifr] | rw [al_whl] | rw [al_tms]
          omega
    · have := len_in rs r m
      omega
  | .whl n t a :: rs, r, m => by
    rw [allR_cons] at m
    rw [allR_cons, List.length_append]
    rcases List.mem_append.mp m with m | m
    · rw [Row.all] at m
      rcases List.mem_cons.mp m with m | m
      · rw [m]; omega
      · have := len_in a r m
        first | rw [al_ifr] | rw [al_whl] | rw [al_tms]
        omega
    · have := len_in rs r m
      omega
  | .tms n t a :: rs, r, m => by
    rw [allR_cons] at m
    rw [allR_cons, List.length_append]
    rcases List.mem_append.mp m with m | m
    · rw [Row.all] at m
      rcases List.mem_cons.mp m with m | m
      · rw [m]; omega
      · have := len_in a r m
        first | rw [al_ifr] | rw [al_whl] | rw [al_tms]
        omega
    · have := len_in rs r m
      omega
/-- a program that is drawn -/
structure Drawn (p : List Row) (hi : Nat) : Prop where
  ex : ∃ cs ms, Scene cs ms ∧ RowsIn cs ms 0 hi 4 p
section
variable {p : List Row} {hi : Nat}
theorem Drawn.low (h : Drawn p hi) : ∀ x ∈ allR p, RowLow x := by
  obtain ⟨cs, ms, sc, ri⟩ := h.ex
  intro x mx
  have q := ri.ok x mx
  have nm : ∀ s, s ∈ cs → isLow s ∧ s.length ≤ 30 := fun s m => ⟨(sc.cn.nm s m).low, by have := (sc.cn.nm s m).le; omega⟩
  have mm : x.mk ∈ ms := by
    have := ri.mks.subset (List.mem_map.mpr ⟨x, mx, rfl⟩)
    unfold seg at this
    exact List.mem_of_mem_drop (List.mem_of_mem_take this)
  have mo := sc.mn.nm _ mm
  exact ⟨Tr.mono nm q.tm, q.dn, q.pt, ⟨mo.low, by have := mo.le; omega⟩, fun m y t e => nm y (q.cel m y t e)⟩
theorem Drawn.nodup (h : Drawn p hi) : ((allR p).map Row.mk).Nodup := by
  obtain ⟨cs, ms, sc, ri⟩ := h.ex
  refine List.Nodup.sublist ri.mks ?_
  unfold seg
  exact (sc.mn.nd.sublist (List.drop_sublist _ _)).sublist (List.take_sublist _ _)
theorem Drawn.len (h : Drawn p hi) : (allR p).length ≤ hi := by
  obtain ⟨cs, ms, sc, ri⟩ := h.ex
  have := ri.len
  omega
theorem Drawn.depth (h : Drawn p hi) : depthR p ≤ 4 := by
  obtain ⟨cs, ms, sc, ri⟩ := h.ex
  exact ri.dp
/-- all rows of it, in a list -/
theorem Drawn.rows_ok (h : Drawn p hi) (hh : hi ≤ 22) : Nz 15 (16000 * 22) (.list (rowsD (allR p))) := by
  have l := h.len
  refine (Nz.lst (n := 14) (w := 16000 * 22) ?_).mono (Nat.le_refl _) (Nat.le_refl _)
  rw [rowsD_map]
  have := NzL.all (n := 14) (w := 15399) (ds := (allR p).map Row.d) fun d m => by
    obtain ⟨r, mr, rfl⟩ := List.mem_map.mp m
    have z := Row.nz r fun x mx => h.low x (in_all p r mr x mx)
    refine z.mono ?_ ?_
    · have := depth_in p r mr
      have := h.depth
      omega
    · have := len_in p r mr
      omega
  refine this.mono (Nat.le_refl _) ?_
  rw [List.length_map]
  omega
end
theorem inx_set : ([PyData.str "while", PyData.str "times"].any fun z => PyData.eqv z (.str "set")) = false := inl_set
theorem inx_tell : ([PyData.str "while", PyData.str "times"].any fun z => PyData.eqv z (.str "tell")) = false := inl_tell
theorem inx_ifr : ([PyData.str "while", PyData.str "times"].any fun z => PyData.eqv z (.str "if")) = false := inl_ifr
theorem inx_whl : ([PyData.str "while", PyData.str "times"].any fun z => PyData.eqv z (.str "while")) = true := inl_whl
theorem inx_tms : ([PyData.str "while", PyData.str "times"].any fun z => PyData.eqv z (.str "times")) = true := inl_tms
theorem x_i01 {α : Type} {p q : α} : (if (0 : Int) = 1 then p else q) = q := rfl
theorem x_i11 {α : Type} {p q : α} : (if (1 : Int) = 1 then p else q) = p := rfl
theorem RowsIn.up {cs ms : List Str} {lo hi hi2 d : Nat} {a : List Row} (h : RowsIn cs ms lo hi d a) (hh : hi ≤ hi2) : RowsIn cs ms lo hi2 d a where
  le := Nat.le_trans h.le hh
  mks := by
    rw [seg_app h.le hh]
    exact h.mks.trans (List.sublist_append_left _ _)
  ok := h.ok
  dp := h.dp
end VL

namespace VL
open PySem PySem.Spec L2

/-! ### exceptions: raise -/
/-- C(e), C a class that keeps e in its field f -/
def tMk1 (C : Addr) (f : Str) (ta : TA) : L2.St → Hp → XK → Prop := fun σ H Q => ta σ H fun vs H1 => ∃ v, vs = [v] ∧ ∀ d, H1 d = none → Q (.ref C) (some d) (upd H1 d (.xd [(f, v)]))
def rp (r : R) (k : D → Prop) : Prop := match r with
  | .p d => k d
  | _ => False
def sRaise1 (C : Addr) (f : Str) (te : AE) : AS := fun N g => te g (fun r g1 => grd r [] (rp r fun d => N.ex C [(f, d)] g1)) N.ex
def sRaise0 (C : Addr) : AS := fun N g => N.ex C [] g
section
variable {X : Cx} {W : WX} {B T : List Nat} {pos pos' p : Pos} {C : Addr} {f x : Str} {e : Expr} {te : AE}
theorem js_raise1 (hc : X.calm = true) (tk : Takes X W) (mk : ∀ {ta : TA}, PA X [e] ta → PMk X (.Call (.Name x p) [e] [] pos) (tMk1 C f ta)) (he : JE X W T e te)
    (hs : starEach [e] X.env = (false, eval e X.env) :: starEach [] X.env := by rfl) : JS X W B T (.Raise (some (.Call (.Name x p) [e] [] pos)) none pos') (sRaise1 C f te) := by
  refine ⟨PSi (ps_raise hc tk (mk (ja_cons he ja_nil hs).pa)) fun D σ H ⟨Z, g, w, N, S, h, ok, rt, ex⟩ => ?_⟩
  refine ⟨Z, g, w, fun rs g1 => ∃ d, rs = [.p d] ∧ N.ex C [(f, d)] g1, N.ex, S, ?_, fun rs vs Z1 H1 g1 w1 f1 q1 O0 => ?_, (ex.mono (T := T ++ []) (by simp)).e (by simp)⟩
  · have h : te g (fun r g1 => grd r [] (rp r fun d => N.ex C [(f, d)] g1)) N.ex := h
    have e1 : (fun r g1 => grd r [] (rp r fun d => N.ex C [(f, d)] g1)) = (fun r g1 => grd r [] (aNil g1 (fun rs g2 => ∃ d, r :: rs = [.p d] ∧ N.ex C [(f, d)] g2) N.ex)) := by
      funext r g1
      cases r with
      | p d => exact propext ⟨fun z => ⟨d, rfl, z⟩, fun ⟨d', z, z2⟩ => by cases z; exact z2⟩
      | sl i o => exact propext ⟨fun z => ⟨z.1, z.2.elim⟩, fun ⟨_, d', z, _⟩ => by cases z⟩
      | vw i o pl => exact propext ⟨fun z => ⟨z.1, z.2.elim⟩, fun ⟨_, d', z, _⟩ => by cases z⟩
      | ow o => exact propext ⟨fun z => z.elim, fun ⟨d', z, _⟩ => by cases z⟩
    rw [e1] at h
    exact h
  · obtain ⟨d, e1, hE⟩ := q1
    subst e1
    have O1 : Out X.K T Z H g w σ Z1 H1 g1 w1 [.p d] vs f1 := O0.mono (by simp)
    clear O0
    have rr := O1.rr
    cases rr with
    | p hd hr =>
      cases hr
      rename_i v
      refine ⟨v, rfl, fun a ha => ?_⟩
      have x : Ext Z1 H1 (fun b => Z1 b ∨ b = a) (upd H1 a (.xd [(f, v)])) [] := Ext.new O1.so.zal ha
      have k := x.kpp O1.so.zal
      refine ex C [(f, d)] (some a) _ _ g1 w1 σ hE ⟨O1.so.ext x, ?_, fun _ _ => rfl, rfl⟩ ⟨.inr rfl, [(f, v)], upd_same, rfl, .cons (hd.kp k) .nil⟩
      simpa using O1.ps.trans (x.pst (g := g1) (w := w1))
/-- raise C(): a class without an init -/
def tMk0 (C : Addr) : L2.St → Hp → XK → Prop := fun _ H Q => Q (.ref C) none H
theorem js_raise0 (hc : X.calm = true) (tk : Takes X W) (mk : PMk X e (tMk0 C)) : JS X W B [] (.Raise (some e) none pos') (sRaise0 C) := by
  refine ⟨PSi (ps_raise hc tk mk) fun D σ H ⟨Z, g, w, N, S, h, ok, rt, ex⟩ => ?_⟩
  exact ex C [] none Z H g w σ h (.refl S) rfl
end

/-! ### try .. except C as n -/
def AN.su (N : AN) (i : Nat) : AN := ⟨fun g => N.nx (g.set i none), N.rt, fun g => N.bk (g.set i none), fun g => N.ct (g.set i none), fun _ _ _ => False⟩
def AN.tr (N : AN) (K : PySem.W.Frag) (c : Value) (i : Nat) (u : Addr → Value → Option Addr → AS) : AN :=
  ⟨N.nx, N.rt, N.bk, N.ct, fun C fs g => ∃ b, PySem.W.exmOne K (.ref C) c = some b ∧ (b = true → ∀ a d, u a (.ref C) d (N.su i) (g.set i (some (.exc a d C fs)))) ∧ (b = false → N.ex C fs g)⟩
def sTry (K : PySem.W.Frag) (c : Value) (i : Nat) (t : AS) (u : Addr → Value → Option Addr → AS) : AS := fun N g => t (N.tr K c i u) g
section
variable {K : PySem.W.Frag} {Z : ZS} {H : Hp} {g : Gm} {w : Ow} {σ : L2.St} {o : O} {i : Nat} {v : V} {B : List Nat}
theorem SO.put0 (S : SO K Z H σ g w) (h : RO K Z H o v []) (hB : B.contains i = false) : Fin K B [i] Z H g w σ Z H (g.set i (some o)) (fun j => if j = i then [] else w j) (σ.set i (some v)) := by
  have iB : i ∉ B := by simpa using hB
  refine ⟨⟨by simpa using S.len, fun j o' e => ?_, fun j => ?_, fun j k a mj mk => ?_, fun j a m => ?_, fun j a m => ?_, S.zal⟩, ⟨fun _ z => z, fun _ _ _ => rfl, fun _ h => h, fun _ z => .inl z, fun j hj => ?_, fun j hj => ?_, fun j hj a m => ?_⟩, fun j hj => ?_, by simp⟩
  · by_cases hj : j = i
    · subst hj
      by_cases hg : j < g.length
      · rw [List.getElem?_set_self hg] at e
        cases e
        exact ⟨v, List.getElem?_set_self (Nat.lt_of_lt_of_le hg S.len), by rw [if_pos rfl]; exact h⟩
      · rw [List.getElem?_eq_none (by simpa using hg)] at e; cases e
    · rw [List.getElem?_set_ne (Ne.symm hj)] at e
      obtain ⟨v', h1, h2⟩ := S.rep j o' e
      exact ⟨v', by rw [List.getElem?_set_ne (Ne.symm hj)]; exact h1, by rw [if_neg hj]; exact h2⟩
  · show (if j = i then [] else w j).Nodup
    split
    · exact List.nodup_nil
    · exact S.nd j
  · have mj : a ∈ if j = i then [] else w j := mj
    have mk : a ∈ if k = i then [] else w k := mk
    split at mj <;> split at mk <;> first | exact absurd mj (by simp) | exact absurd mk (by simp) | exact S.dj j k a mj mk
  · have m : a ∈ if j = i then [] else w j := m
    split at m
    · exact absurd m (by simp)
    · exact S.nz j a m
  · have m : a ∈ if j = i then [] else w j := m
    split at m
    · exact absurd m (by simp)
    · exact S.wal j a m
  · rw [List.getElem?_set_ne]
    intro z
    exact hj (by simp [z])
  · show (if j = i then [] else w j) = w j
    rw [if_neg]
    intro z
    exact hj (by simp [z])
  · have m : a ∈ if j = i then [] else w j := m
    have : j = i := by simpa using hj
    rw [if_pos this] at m
    exact absurd m (by simp)
  · rw [List.getElem?_set_ne]
    intro z
    exact iB (z ▸ hj)
theorem SO.out0 (S : SO K Z H σ g w) (hB : B.contains i = false) : Fin K B [i] Z H g w σ Z H (g.set i none) (fun j => if j = i then [] else w j) (σ.set i none) := by
  have iB : i ∉ B := by simpa using hB
  refine ⟨⟨by simpa using S.len, fun j o' e => ?_, fun j => ?_, fun j k a mj mk => ?_, fun j a m => ?_, fun j a m => ?_, S.zal⟩, ⟨fun _ z => z, fun _ _ _ => rfl, fun _ h => h, fun _ z => .inl z, fun j hj => ?_, fun j hj => ?_, fun j hj a m => ?_⟩, fun j hj => ?_, by simp⟩
  · by_cases hj : j = i
    · subst hj
      by_cases hg : j < g.length
      · rw [List.getElem?_set_self hg] at e
        cases e
      · rw [List.getElem?_eq_none (by simpa using hg)] at e; cases e
    · rw [List.getElem?_set_ne (Ne.symm hj)] at e
      obtain ⟨v', h1, h2⟩ := S.rep j o' e
      exact ⟨v', by rw [List.getElem?_set_ne (Ne.symm hj)]; exact h1, by rw [if_neg hj]; exact h2⟩
  · show (if j = i then [] else w j).Nodup
    split
    · exact List.nodup_nil
    · exact S.nd j
  · have mj : a ∈ if j = i then [] else w j := mj
    have mk : a ∈ if k = i then [] else w k := mk
    split at mj <;> split at mk <;> first | exact absurd mj (by simp) | exact absurd mk (by simp) | exact S.dj j k a mj mk
  · have m : a ∈ if j = i then [] else w j := m
    split at m
    · exact absurd m (by simp)
    · exact S.nz j a m
  · have m : a ∈ if j = i then [] else w j := m
    split at m
    · exact absurd m (by simp)
    · exact S.wal j a m
  · rw [List.getElem?_set_ne]
    intro z
    exact hj (by simp [z])
  · show (if j = i then [] else w j) = w j
    rw [if_neg]
    intro z
    exact hj (by simp [z])
  · have m : a ∈ if j = i then [] else w j := m
    have : j = i := by simpa using hj
    rw [if_pos this] at m
    exact absurd m (by simp)
  · rw [List.getElem?_set_ne]
    intro z
    exact iB (z ▸ hj)
end
section
variable {X : Cx} {W : WX} {B T1 T2 : List Nat} {x n : Str} {c : Value} {i : Nat} {body suite : List Stmt} {b₀ : Stmt} {np pos pos' : Pos} {t : AS} {u : Addr → Value → Option Addr → AS}
theorem js_try (hB : B.contains i = false) (hs : X.stack = X.env :: X.outer) (hf : X.env.frame = some X.env.locals) (hN : X.N.Nodup) (hi : X.N[i]? = some n) (hln : X.env.kindOf n = some .local) (hc : L2.Names X x c) (tk : Takes X W)
    (hb : ∀ (W' : WX) (pn : List (Addr × Obj)) (xe : Value → Shared → Prop), Takes (X.tr pn xe) W' → JSs (X.tr pn xe) W' B T1 body t)
    (hsu : ∀ (a : Addr) (oe : Obj) (cls : Value) (d : Option Addr) (pn : List (Addr × Obj)), Zc cls d oe → (∃ vs, oe.data = .fields vs) → JSs (X.suite a ((a, oe) :: pn)) (fun _ _ _ _ => False) B T2 (b₀ :: suite) (u a cls d)) :
    JS X W B (T1 ++ ([i] ++ (T2 ++ [i]))) (.Try body [.ExceptHandler (some (.Name x np)) (some n) (b₀ :: suite) pos'] [] [] pos) (sTry X.K c i t u) := by
  refine ⟨PSi (ps_try_as (tb := fun W' => liftS X.K W' B T1 t) (ts := fun a cls d => liftS X.K (fun _ _ _ _ => False) B T2 (u a cls d)) hs hf hN hi hln hc tk (fun W' pn xe tk' _ => (hb W' pn xe tk').ps) (fun a oe cls d pn hz hf => (hsu a oe cls d pn hz hf).ps)) fun D σ H ⟨Z, g, w, N, S, h, ok, rt, ex⟩ => ?_⟩
  have iB : i ∉ B := by simpa using hB
  have iN : i < X.N.length := (List.getElem?_eq_some_iff.mp hi).1
  refine ⟨Z, g, w, N.tr X.K c i u, S, h, fun Z1 H1 g1 w1 σ1 F1 => ok Z1 H1 g1 w1 σ1 (F1.mono app_l), fun r v Z1 H1 g1 w1 σ1 f q O1 sb => rt r v Z1 H1 g1 w1 σ1 f q (O1.mono app_l) sb, fun C fs d Z1 H1 g1 w1 σ1 q F1 xd => ?_⟩
  obtain ⟨b, e1, yes, no⟩ := q
  refine ⟨b, e1, fun eb a na => ?_, fun eb => ex C fs d Z1 H1 g1 w1 σ1 (no eb) (F1.mono app_l) xd⟩
  have y := yes eb a d
  have F2 := F1.trans (F1.so.put0 (i := i) (B := B) (RO.exc (a := a) (C := C) xd) hB)
  refine ⟨Z1, _, _, N.su i, F2.so, y, fun Z3 H3 g3 w3 σ3 F3 => ?_, fun r v Z3 H3 g3 w3 σ3 f q O3 sb => ?_, fun _ _ _ _ _ _ _ _ z => z.elim⟩
  · have F4 := (F2.trans F3).trans (F3.so.out0 (i := i) (B := B) hB)
    have F5 : Fin X.K B (T1 ++ ([i] ++ (T2 ++ [i]))) Z H g w σ _ _ _ _ _ := F4.mono (by intro j hj; simpa [List.append_assoc] using hj)
    exact ok _ _ _ _ _ F5
  · exact rt r v Z3 H3 g3 w3 σ3 f q ((O3.after F2.ps).mono (by intro j hj; simp only [List.mem_append] at hj ⊢; rcases hj with (h | h) | h <;> simp [h])) fun j hj => (sb j hj).trans (F2.sb j hj)
end
end VL

namespace VL
open PySem PySem.Spec L2

/-! ### an exception that a suite holds: isinstance, fields -/
theorem inst_exc {X : Cx} {pins : List (Addr × Obj)} {σ : L2.St} {H : Hp} {s : Shared} {a D : Addr} {oe : Obj} {d : Option Addr} {pn : List (Addr × Obj)} (I : Inv (X.suite a ((a, oe) :: pn)) pins σ H s) (hz : Zc (.ref D) d oe) (hf : ∃ vs, oe.data = .fields vs)
    (hd : ∀ dd, d = some dd → ∃ ps, H dd = some (.xd ps)) : ∃ od, PySem.W.InstAt s.heap a oe D od := by
  obtain ⟨hget, _⟩ := I.pin (a, oe) (List.mem_append.mpr (.inl List.mem_cons_self))
  obtain ⟨vs, hv⟩ := hf
  cases d with
  | none =>
    refine ⟨none, ?_⟩
    obtain ⟨oc, od, oda, osl⟩ := oe
    obtain ⟨h1, h2⟩ := hz
    dsimp only at h1 h2 hv
    subst h1 h2 hv
    exact ⟨hget, rfl, rfl, trivial⟩
  | some dd =>
    obtain ⟨ps, e⟩ := hd dd rfl
    have hx : ObjOk X.prog X.w H s.heap dd (.xd ps) := I.hok dd _ e
    obtain ⟨mA, hns, hr⟩ := hx
    obtain ⟨od, ho, hl⟩ := lookIn_ns hns
    exact ⟨some od, hget, hz.1, by unfold PySem.W.notCls; rw [hv] <;> rfl, by rw [hz.2]; exact ho⟩
def rIs1 (K : PySem.W.Frag) (D a : Addr) (d : Option Addr) : List V → Hp → VK → Prop := fun xs H Q => ∃ (c : V) (u : Value) (b : Bool), xs = [.ref a, c] ∧ ClsV c u ∧ (∀ dd, d = some dd → ∃ ps, H dd = some (.xd ps)) ∧ PySem.W.kitOne K (.ref D) u = some b ∧ Q (.bl b) H
def rIsT (K : PySem.W.Frag) (D a : Addr) (d : Option Addr) : List V → Hp → VK → Prop := fun xs H Q => ∃ (tp : Addr) (cs : List V) (us : List Value) (b : Bool), xs = [.ref a, .ref tp] ∧ H tp = some (.tup cs) ∧ Paired ClsV cs us ∧ (∀ dd, d = some dd → ∃ ps, H dd = some (.xd ps)) ∧ PySem.W.kitAny K (.ref D) us = some b ∧ Q (.bl b) H
section
variable {X : Cx} {a D : Addr} {oe : Obj} {d : Option Addr} {pn : List (Addr × Obj)}
theorem exc_kit {x : Addr} {ox : Obj} {od : Option Obj} (C : ExcC X.K D) : PySem.W.KitX X.K (.ref x) (.ref D) (fun h => PySem.W.InstAt h x ox D od) := by
  obtain ⟨cd, hc, _⟩ := PySem.W.any_some C.hd
  exact PySem.W.kitx_exc (by rw [hc]; rfl) C.hg C.hk C.hs C.ha C.hn C.ht C.hm
theorem call_is1 (C : ExcC X.K D) (hz : Zc (.ref D) d oe) (hf : ∃ vs, oe.data = .fields vs) : CallR (X.suite a ((a, oe) :: pn)) (.builtin "isinstance") (rIs1 X.K D a d) := by
  intro pins s σ H xs us Q I r h
  obtain ⟨c, u, b, rfl, hc, hd, e, q⟩ := h
  obtain ⟨u1, u2, rfl, r1, r2⟩ := vals2 r
  have e2 := hc.eq r2
  subst e2
  cases (show u1 = Value.ref a from r1)
  obtain ⟨od, J⟩ := inst_exc I hz hf hd
  exact PySem.W.kia_one (exc_kit C) I.kIn J e (fun z => nomatch z) fun tk => ⟨.bl b, H, I.tok tk, rfl, q⟩
theorem call_isT (C : ExcC X.K D) (hz : Zc (.ref D) d oe) (hf : ∃ vs, oe.data = .fields vs) : CallR (X.suite a ((a, oe) :: pn)) (.builtin "isinstance") (rIsT X.K D a d) := by
  intro pins s σ H xs us Q I r h
  obtain ⟨tp, cs, ws, b, rfl, hT, k, hd, e, q⟩ := h
  obtain ⟨u1, u2, rfl, r1, r2⟩ := vals2 r
  cases (show u2 = Value.ref tp from r2)
  cases (show u1 = Value.ref a from r1)
  obtain ⟨od, J⟩ := inst_exc I hz hf hd
  obtain ⟨_, its, rv, o, h1, h2, n, h3⟩ := (show ObjOk X.prog X.w H s.heap tp (.tup cs) from I.hok tp _ hT)
  have e3 := ClsV.all k rv
  subst e3
  obtain ⟨oc, od', dt, sl⟩ := o
  simp only at h2 h3
  subst h2 h3
  exact PySem.W.kia_tup (exc_kit C) I.kIn J h1 e (fun z => nomatch z) fun tk => ⟨.bl b, H, I.tok tk, rfl, q⟩
end
/-- the exception that name i holds; its class, its fields -/
def eHeld (i : Nat) (a : Addr) (d : Option Addr) (g : Gm) (k : Addr → List (Str × D) → Prop) : Prop := match g[i]? with
  | some (some (.exc a' d' C fs)) => a' = a ∧ d' = d ∧ k C fs
  | _ => False
def rIs (K : PySem.W.Frag) (i : Nat) (a : Addr) (cls : Value) (d : Option Addr) (u : Value) : AE := fun g Q _ => eHeld i a d g fun C fs => cls = .ref C ∧ ∃ b, PySem.W.kitOne K (.ref C) u = some b ∧ ExcC K C ∧ Q (.p (.bool b)) g
def rFld (i : Nat) (a : Addr) (cls : Value) (d : Option Addr) (f : Str) (K : PySem.W.Frag) : AE := fun g Q _ => eHeld i a d g fun C fs => cls = .ref C ∧ XfC K C ∧ PySem.W.findIn K (.ref C) f = some none ∧ ∃ v, fs.lookup f = some v ∧ Q (.p v) g
section
variable {X : Cx} {W : WX} {a : Addr} {oe : Obj} {cls : Value} {d : Option Addr} {pn : List (Addr × Obj)} {i : Nat} {x n f : Str} {p p1 p2 pos : Pos}
theorem eHeld.get {i : Nat} {a : Addr} {d : Option Addr} {g : Gm} {k : Addr → List (Str × D) → Prop} (h : eHeld i a d g k) : ∃ C fs, g[i]? = some (some (.exc a d C fs)) ∧ k C fs := by
  unfold eHeld at h
  split at h
  · rename_i e
    obtain ⟨rfl, rfl, h⟩ := h
    exact ⟨_, _, e, h⟩
  · exact h.elim
theorem RO.exc_inv {K : PySem.W.Frag} {Z : ZS} {H : Hp} {C : Addr} {fs : List (Str × D)} {v : V} {l : List Addr} (h : RO K Z H (.exc a d C fs) v l) : v = .ref a ∧ XDz K Z H d fs := by
  cases h with
  | exc x => exact ⟨rfl, x⟩
theorem fld_get {K : PySem.W.Frag} {Z : ZS} {H : Hp} {f : Str} {v : D} : ∀ {fs : List (Str × D)} {ps : List (Str × V)}, fs.map (·.1) = ps.map (·.1) → PDs K Z H (ps.map (·.2)) (fs.map (·.2)) → fs.lookup f = some v → ∃ u, ps.lookup f = some u ∧ PD K Z H u v
  | [], _, _, _, e => by cases e
  | (n, x) :: fs, [], h, _, _ => by cases h
  | (n, x) :: fs, (m, y) :: ps, h, r, e => by
    simp only [List.map_cons, List.cons.injEq] at h
    obtain ⟨h1, h2⟩ := h
    subst h1
    have r : PDs K Z H (y :: ps.map (·.2)) (x :: fs.map (·.2)) := r
    cases r with
    | cons r1 r2 =>
      rw [List.lookup_cons] at e ⊢
      cases hb : f == n with
      | true => rw [hb] at e; cases e; exact ⟨y, rfl, r1⟩
      | false => rw [hb] at e; exact fld_get h2 r2 e
theorem je_is (u : Value) (v : V) (hz : Zc cls d oe) (hf : ∃ vs, oe.data = .fields vs) (hg : Gl X "isinstance") (hm : X.mg "isinstance" = none) (hgx : Gl X x) (hmx : X.mg x = some u) (hcv : ClsV v u) (hr : RelV v u)
    (hN : X.N[i]? = some n := by rfl) (hv : Vis X.env.scope n := by first | exact Or.inl rfl | exact Or.inr (Or.inl rfl) | exact Or.inr (Or.inr rfl)) (hd : (n == ("__debug__" : Str)) = false := by decide)
    (hcd : (n == ("__classdict__" : Str)) = false := by decide) (hdx : (x == ("__debug__" : Str)) = false := by decide) :
    JE (X.suite a ((a, oe) :: pn)) W [] (.Call (.Name "isinstance" p) [.Name n p1, .Name x p2] [] pos) (rIs X.K i a cls d u) := by
  refine ⟨⟨fun pins s σ H Q I ⟨Z, g, w, q, E, S, h, ok, ex⟩ => ?_⟩⟩
  obtain ⟨C, fs, eg, ec, b, ek, exc, hq⟩ := eHeld.get h
  subst ec
  obtain ⟨v1, e1, ro⟩ := S.rep i _ eg
  obtain ⟨e2, xd⟩ := ro.exc_inv
  subst e2
  refine (pe_callB (call_is1 (pn := pn) (a := a) exc hz hf) hg hm rfl (pa_cons (pe_var (X := X.suite a ((a, oe) :: pn)) hN hv hd hcd) (pa_cons (pe_glob (X := X.suite a ((a, oe) :: pn)) hgx hmx hr hdx) pa_nil))).run pins s σ H Q I ?_
  refine ⟨.ref a, e1, v, u, b, rfl, hcv, fun dd ed => ?_, ek, ok _ _ Z H g w [] hq (Out.one S (.bl b))⟩
  subst ed
  obtain ⟨_, ps, e, _⟩ := xd
  exact ⟨ps, e⟩
theorem je_fld (hz : Zc cls d oe) (hf : ∃ vs, oe.data = .fields vs)
    (hN : X.N[i]? = some n := by rfl) (hv : Vis X.env.scope n := by first | exact Or.inl rfl | exact Or.inr (Or.inl rfl) | exact Or.inr (Or.inr rfl)) (hd : (n == ("__debug__" : Str)) = false := by decide)
    (hcd : (n == ("__classdict__" : Str)) = false := by decide) (hb : attributeBase (.Name n p) f X.env (eval (.Name n p) X.env) = eval (.Name n p) X.env := by rfl) :
    JE (X.suite a ((a, oe) :: pn)) W [] (.Attribute (.Name n p) f pos) (rFld i a cls d f X.K) := by
  refine ⟨⟨fun pins s σ H Q I ⟨Z, g, w, q, E, S, h, ok, ex⟩ => ?_⟩⟩
  obtain ⟨C, fs, eg, ec, T, hno, v, el, hq⟩ := eHeld.get h
  obtain ⟨v1, e1, ro⟩ := S.rep i _ eg
  obtain ⟨e2, xd⟩ := ro.exc_inv
  subst e2
  cases d with
  | none =>
    have xd : fs = [] := xd
    subst xd
    cases el
  | some dd =>
    obtain ⟨_, ps, e, hk, hp⟩ := xd
    obtain ⟨y, ey, pd⟩ := fld_get hk hp el
    exact (pe_xf T hno hz hf (pe_var (X := X.suite a ((a, oe) :: pn)) hN hv hd hcd) hb).run pins s σ H Q I ⟨.ref a, e1, rfl, ec, dd, ps, y, rfl, e, ey, ok _ _ Z H g w [] hq (Out.one S pd)⟩
end
end VL

namespace VL
open PySem PySem.Spec PyProof.Rows L2

/-- a class of the program that keeps one thing in a field can be made -/
def Mk1Ok (K : PySem.W.Frag) (mg : Str → Option Value) (x f : Str) (C : Addr) : Prop :=
  ∀ {X : Cx} {e : Expr} {ta : TA} {p pos : Pos} {k : Nat}, X.K = K → X.mg = mg → Room k X.A → Gl X x → starEach (e :: []) X.env = (false, eval e X.env) :: starEach [] X.env →
    (backTo pos (starEach [] X.env)).any (·.1) = false → PA X [e] ta → PMk X (.Call (.Name x p) [e] [] pos) (tMk1 C f ta)
/-- a class of errors of the program, as a name of the module -/
structure ExCls (K : PySem.W.Frag) (mg : Str → Option Value) (x : Str) (C : Addr) : Prop where
  gl : mg x = some (.ref C)
  ec : ExcC K C
  xf : XfC K C
section
variable {X : Cx} {W : WX} {B T : List Nat} {pos pos' p : Pos} {C : Addr} {f x : Str} {e : Expr} {te : AE} {k : Nat}
theorem js_raiseM (hc : X.calm = true) (tk : Takes X W) (hr : Room k X.A) (M : Mk1Ok X.K X.mg x f C) (hg : Gl X x) (he : JE X W T e te) (hs : starEach (e :: []) X.env = (false, eval e X.env) :: starEach [] X.env := by rfl)
    (hpl : (backTo pos (starEach [] X.env)).any (·.1) = false := by rfl) : JS X W B T (.Raise (some (.Call (.Name x p) [e] [] pos)) none pos') (sRaise1 C f te) :=
  js_raise1 hc tk (fun ha => M rfl rfl hr hg hs hpl ha) he hs
end
/-- the values of names of classes, as arguments -/
def tVs (vs : List V) : TA := fun _ H Q => Q vs H
section
variable {X : Cx} {W : WX} {a : Addr} {oe : Obj} {cls : Value} {d : Option Addr} {pn : List (Addr × Obj)} {i : Nat} {x n : Str} {p p1 p2 pos pos2 : Pos} {es : List Expr} {vs : List V} {us : List Value} {v : V} {u : Value} {K : PySem.W.Frag}
theorem pv_nil : PA X [] (tVs []) := pa_nil
theorem pv_cons (hg : Gl X x) (hm : X.mg x = some u) (r : RelV v u) (h : PA X es (tVs vs)) (hd : (x == ("__debug__" : Str)) = false := by decide)
    (hs : starEach (.Name x p :: es) X.env = (false, eval (.Name x p) X.env) :: starEach es X.env := by rfl) : PA X (.Name x p :: es) (tVs (v :: vs)) := ⟨fun pos pins s σ H Q I q => (pa_cons (pe_glob hg hm r hd) h hs).run pos pins s σ H Q I q⟩
def rIsTu (K : PySem.W.Frag) (i : Nat) (a : Addr) (cls : Value) (d : Option Addr) (us : List Value) : AE := fun g Q _ => eHeld i a d g fun C fs => cls = .ref C ∧ ∃ b, PySem.W.kitAny K (.ref C) us = some b ∧ ExcC K C ∧ Q (.p (.bool b)) g
theorem je_isTu {x1} (hz : Zc cls d oe) (hf : ∃ vs, oe.data = .fields vs) (hg : Gl X "isinstance") (hm : X.mg "isinstance" = none) (ha : PA (X.suite a ((a, oe) :: pn)) es (tVs vs)) (hp : Paired ClsV vs us) (hl : vs.length ≤ 1000)
    (hN : X.N[i]? = some n := by rfl) (hv : Vis X.env.scope n := by first | exact Or.inl rfl | exact Or.inr (Or.inl rfl) | exact Or.inr (Or.inr rfl)) (hd : (n == ("__debug__" : Str)) = false := by decide)
    (hcd : (n == ("__classdict__" : Str)) = false := by decide) :
    JE (X.suite a ((a, oe) :: pn)) W [] (.Call (.Name "isinstance" p) [.Name n p1, .Tuple es x1 pos2] [] pos) (rIsTu X.K i a cls d us) := by
  refine ⟨⟨fun pins s σ H Q I ⟨Z, g, w, q, E, S, h, ok, ex⟩ => ?_⟩⟩
  obtain ⟨C, fs, eg, ec, b, ek, exc, hq⟩ := eHeld.get h
  subst ec
  obtain ⟨v1, e1, ro⟩ := S.rep i _ eg
  obtain ⟨e2, xd⟩ := ro.exc_inv
  subst e2
  refine (pe_callB (call_isT (pn := pn) (a := a) exc hz hf) hg hm rfl (pa_cons (pe_var (X := X.suite a ((a, oe) :: pn)) hN hv hd hcd) (pa_cons (pe_tup ha) pa_nil))).run pins s σ H Q I ?_
  refine ⟨.ref a, e1, Nat.le_trans hl (by rw [sizeLine_eq]; decide), fun tp htp => ?_⟩
  have x : Ext Z H (fun b => Z b ∨ b = tp) (upd H tp (.tup vs)) [] := Ext.new S.zal htp
  refine ⟨tp, vs, us, b, rfl, upd_same, hp, fun dd ed => ?_, ek, ok _ _ (fun b => Z b ∨ b = tp) (upd H tp (.tup vs)) g w [] hq ((Out.nil S).op x (.p (.bl b)))⟩
  subst ed
  obtain ⟨z, ps, e, _⟩ := xd
  exact ⟨ps, by rw [x.kp dd (S.zal dd z)]; exact e⟩
/-- a built-in class as the second argument -/
theorem je_isB {T : String} (hz : Zc cls d oe) (hf : ∃ vs, oe.data = .fields vs) (hg : Gl X "isinstance") (hm : X.mg "isinstance" = none) (hpe : PE (X.suite a ((a, oe) :: pn)) (.Name x p2) (tC (.ty T)))
    (hN : X.N[i]? = some n := by rfl) (hv : Vis X.env.scope n := by first | exact Or.inl rfl | exact Or.inr (Or.inl rfl) | exact Or.inr (Or.inr rfl)) (hd : (n == ("__debug__" : Str)) = false := by decide)
    (hcd : (n == ("__classdict__" : Str)) = false := by decide) :
    JE (X.suite a ((a, oe) :: pn)) W [] (.Call (.Name "isinstance" p) [.Name n p1, .Name x p2] [] pos) (rIs X.K i a cls d (.type T)) := by
  refine ⟨⟨fun pins s σ H Q I ⟨Z, g, w, q, E, S, h, ok, ex⟩ => ?_⟩⟩
  obtain ⟨C, fs, eg, ec, b, ek, exc, hq⟩ := eHeld.get h
  subst ec
  obtain ⟨v1, e1, ro⟩ := S.rep i _ eg
  obtain ⟨e2, xd⟩ := ro.exc_inv
  subst e2
  refine (pe_callB (call_is1 (pn := pn) (a := a) exc hz hf) hg hm rfl (pa_cons (pe_var (X := X.suite a ((a, oe) :: pn)) hN hv hd hcd) (pa_cons hpe pa_nil))).run pins s σ H Q I ?_
  refine ⟨.ref a, e1, .ty T, .type T, b, rfl, .ty T, fun dd ed => ?_, ek, ok _ _ Z H g w [] hq (Out.one S (.bl b))⟩
  subst ed
  obtain ⟨_, ps, e, _⟩ := xd
  exact ⟨ps, e⟩
end
end VL

namespace VL
open PySem PySem.Spec PyProof.Rows L2

theorem rv_ref (a : Addr) : RelV (V.ref a) (Value.ref a) := rfl
/-! ### is True, is False -/
def aIsB : Aop
  | [.bool a, .bool b], k => k (.p (.bool (decide (a = b))))
  | _, _ => False
theorem ok_isB {K : PySem.W.Frag} : POk K (tw (fun x y H Q => ∃ a b, x = .bl a ∧ y = .bl b ∧ Q (.bl (decide (a = b))) H)) aIsB := by
  intro Z H vs ds k Q zl h2 h ret
  unfold aIsB at h
  split at h
  · obtain ⟨x, y, rfl, h1, h2⟩ := all2_2 h2
    exact ⟨_, _, rfl, _, _, h1.bl_i, h2.bl_i, ret _ _ Z H [] h (Ext.refl zl) (.p (.bl _))⟩
  · exact h.elim
/-! ### the classes of errors of the program; er: name -> address; ls: those that there are; ms: those that are made with a field -/
def fldOf (x : PySem.Str) : Option PySem.Str := if x = "BadText" then some "at" else if x = "Twice" then some "name" else if x = "NoName" then some "name" else if x = "TooLong" then some "most" else if x = "TooMany" then some "most" else none
structure Errs (K : PySem.W.Frag) (mg : PySem.Str → Option Value) (er : PySem.Str → Addr) (ls ms : List PySem.Str) : Prop where
  gM : mg "MeantError" = some (.ref (er "MeantError"))
  g : ∀ x ∈ ls, ExCls K mg x (er x)
  mk1 : ∀ x ∈ ms, ∀ f, fldOf x = some f → Mk1Ok K mg x f (er x)
  no : ∀ x ∈ ls, ∀ f, fldOf x = some f → PySem.W.findIn K (.ref (er x)) f = some none
  meant : ∀ x ∈ ls, PySem.W.exmOne K (.ref (er x)) (.ref (er "MeantError")) = some true
  self : ∀ x ∈ ls, ∀ y ∈ ls, PySem.W.exmOne K (.ref (er x)) (.ref (er y)) = some (decide (x = y))
  isM : ∀ x ∈ ls, PySem.W.kitOne K (.ref (er x)) (.ref (er "MeantError")) = some true
  isV : ∀ x ∈ ls, PySem.W.kitOne K (.ref (er x)) (.type "ValueError") = some true
  is1 : ∀ x ∈ ls, ∀ y ∈ ls, PySem.W.kitOne K (.ref (er x)) (.ref (er y)) = some (decide (x = y))
theorem Errs.isAny {K : PySem.W.Frag} {mg : PySem.Str → Option Value} {er : PySem.Str → Addr} {ls ms : List PySem.Str} (E : Errs K mg er ls ms) {x : PySem.Str} (hx : x ∈ ls) :
    ∀ ys : List PySem.Str, (∀ y ∈ ys, y ∈ ls) → PySem.W.kitAny K (.ref (er x)) (ys.map fun y => .ref (er y)) = some (ys.any fun y => decide (x = y))
  | [], _ => rfl
  | y :: ys, h => by
    have e := E.is1 x hx y (h y List.mem_cons_self)
    have r := Errs.isAny E hx ys fun z m => h z (List.mem_cons_of_mem _ m)
    rw [List.map_cons, List.any_cons]
    unfold PySem.W.kitAny
    rw [e]
    cases hd : decide (x = y) with
    | true => rfl
    | false => exact r
/-! ### how they follow from what the written part says -/
section
variable {K : PySem.W.Frag} {C D : Addr} {b : Bool}
theorem kit_of (hi : PySem.W.isClsIn K D = true) (ht : PySem.W.typeIn K (.ref D) = some (.type "type")) (hs : PySem.W.subIn K (.ref C) (.ref D) = some b) : PySem.W.kitCls K (.ref C) (.ref D) = some b := by
  have h2 : (PySem.W.clsIn K D).isSome = true := hi
  have e2 : ((PySem.W.clsIn K D).isSome && PySem.W.typeIn K (.ref D) == some (.type "type")) = true := by rw [h2, ht] <;> rfl
  show (if ((PySem.W.clsIn K D).isSome && PySem.W.typeIn K (.ref D) == some (.type "type")) = true then PySem.W.subIn K (.ref C) (.ref D) else none) = some b
  rw [if_pos e2]
  exact hs
theorem exm_of (hb : PySem.W.subIn K (.ref D) (.type "BaseException") = some true) (hi : PySem.W.isClsIn K D = true) (ht : PySem.W.typeIn K (.ref D) = some (.type "type")) (hs : PySem.W.subIn K (.ref C) (.ref D) = some b) : PySem.W.exmOne K (.ref C) (.ref D) = some b := by
  have e1 : (PySem.W.subIn K (.ref D) (.type "BaseException") == some true) = true := by rw [hb] <;> rfl
  show (if (PySem.W.subIn K (.ref D) (.type "BaseException") == some true) = true then PySem.W.kitCls K (.ref C) (.ref D) else none) = some b
  rw [if_pos e1]
  exact kit_of hi ht hs
/-- hc: C is of itself -/
theorem kit1_of (hc : PySem.W.subIn K (.ref C) (.ref C) = some true) (hi : PySem.W.isClsIn K D = true) (ht : PySem.W.typeIn K (.ref D) = some (.type "type")) (hs : PySem.W.subIn K (.ref C) (.ref D) = some b) : PySem.W.kitOne K (.ref C) (.ref D) = some b := by
  by_cases h : (Value.ref C == Value.ref D) = true
  · have e : C = D := by have := eq_of_beq h; cases this; rfl
    subst e
    rw [hc] at hs
    cases hs
    show (if (Value.ref C == Value.ref C) = true then some true else PySem.W.kitCls K (.ref C) (.ref C)) = some true
    rw [if_pos h]
  · show (if (Value.ref C == Value.ref D) = true then some true else PySem.W.kitCls K (.ref C) (.ref D)) = some b
    rw [if_neg h]
    exact kit_of hi ht hs
theorem kitV_of (hs : PySem.W.subIn K (.ref C) (.type "ValueError") = some true) : PySem.W.kitOne K (.ref C) (.type "ValueError") = some true := by
  have h : (Value.ref C == Value.type "ValueError") = false := rfl
  show (if (Value.ref C == Value.type "ValueError") = true then some true else PySem.W.kitCls K (.ref C) (.type "ValueError")) = some true
  rw [if_neg (by rw [h]; exact Bool.false_ne_true)]
  have e : PySem.W.kitMeta "ValueError" = true := by decide +kernel
  show (if PySem.W.kitMeta "ValueError" = true then PySem.W.subIn K (.ref C) (.type "ValueError") else none) = some true
  rw [if_pos e]
  exact hs
/-- what is said of one class of errors -/
structure Cls1 (K : PySem.W.Frag) (mg : PySem.Str → Option Value) (x : PySem.Str) (C M : Addr) : Prop where
  gl : mg x = some (.ref C)
  ga : PySem.W.findIn K (.ref C) "__getattribute__" = some (some (.builtin "BaseException.__getattribute__"))
  gg : PySem.W.findIn K (.ref C) "__getattr__" = some none
  eC : PySem.W.subIn K (.ref C) (.type "BaseException") = some true
  hC : PySem.W.hasDictIn K C = true
  ha : PySem.W.findIn K (.ref C) "__class__" = some (some (.builtin "object.__class__"))
  hm : PySem.W.mroIn K C (.type "object") = some true
  iC : PySem.W.isClsIn K C = true
  tC : PySem.W.typeIn K (.ref C) = some (.type "type")
  sM : PySem.W.subIn K (.ref C) (.ref M) = some true
  sV : PySem.W.subIn K (.ref C) (.type "ValueError") = some true
  sS : PySem.W.subIn K (.ref C) (.ref C) = some true
theorem Cls1.ex {mg : PySem.Str → Option Value} {x : PySem.Str} {M : Addr} (h : Cls1 K mg x C M) (hn : PySem.W.specialIn K (.builtin "object.__class__") "__get__" = some (some (.builtin "getset_descriptor.__get__"))) (ht : PySem.W.takesIn K (.builtin "object.__class__") = some true) : ExCls K mg x C :=
  ⟨h.gl, ⟨h.ga, h.gg, h.eC, h.hC, h.ha, hn, ht, h.hm⟩, ⟨h.ga, h.gg, h.eC, h.hC⟩⟩
end
end VL

    set_option Elab.async false
    set_option linter.all false
    set_option maxRecDepth 100000
    set_option maxHeartbeats 4000000
    namespace VL
    open PySem PySem.Spec PyProof.Rows L2

    /-! ### 52. The readings of errors at a state that is written out -/
    theorem x_sRaise1 {C : Addr} {f : Str} {te : AE} {N : AN} {g0 : Gm} {o0 : Option O} : sRaise1 C f te N (o0 :: g0) = (fun (g : Gm) => (te g (fun r g1 => grd r [] (rp r fun d => N.ex C [(f, d)] g1)) N.ex : Prop)) (o0 :: g0) := rfl
theorem x_sRaise0 {C : Addr} {N : AN} {g0 : Gm} {o0 : Option O} : sRaise0 C N (o0 :: g0) = (fun (g : Gm) => (N.ex C [] g : Prop)) (o0 :: g0) := rfl
theorem x_sTry {K : PySem.W.Frag} {c : Value} {i : Nat} {t : AS} {u : Addr → Value → Option Addr → AS} {N : AN} {g0 : Gm} {o0 : Option O} : sTry K c i t u N (o0 :: g0) = (fun (g : Gm) => (t (N.tr K c i u) g : Prop)) (o0 :: g0) := rfl
theorem x_rIs {K : PySem.W.Frag} {i : Nat} {a : Addr} {cls : Value} {d : Option Addr} {u : Value} {Q : R → Gm → Prop} {E0 : EX} {g0 : Gm} {o0 : Option O} : rIs K i a cls d u (o0 :: g0) Q E0 = (fun (g : Gm) => (eHeld i a d g fun C fs => cls = .ref C ∧ ∃ b, PySem.W.kitOne K (.ref C) u = some b ∧ ExcC K C ∧ Q (.p (.bool b)) g : Prop)) (o0 :: g0) := rfl
theorem x_rFld {i : Nat} {a : Addr} {cls : Value} {d : Option Addr} {f : Str} {K : PySem.W.Frag} {Q : R → Gm → Prop} {E0 : EX} {g0 : Gm} {o0 : Option O} : rFld i a cls d f K (o0 :: g0) Q E0 = (fun (g : Gm) => (eHeld i a d g fun C fs => cls = .ref C ∧ XfC K C ∧ PySem.W.findIn K (.ref C) f = some none ∧ ∃ v, fs.lookup f = some v ∧ Q (.p v) g : Prop)) (o0 :: g0) := rfl
theorem x_rIsTu {K : PySem.W.Frag} {i : Nat} {a : Addr} {cls : Value} {d : Option Addr} {us : List Value} {Q : R → Gm → Prop} {E0 : EX} {g0 : Gm} {o0 : Option O} : rIsTu K i a cls d us (o0 :: g0) Q E0 = (fun (g : Gm) => (eHeld i a d g fun C fs => cls = .ref C ∧ ∃ b, PySem.W.kitAny K (.ref C) us = some b ∧ ExcC K C ∧ Q (.p (.bool b)) g : Prop)) (o0 :: g0) := rfl
section
variable {K : PySem.W.Frag} {N : AN} {c : Value} {i : Nat} {u : Addr → Value → Option Addr → AS} {C a : Addr} {d : Option Addr} {fs : List (PySem.Str × D)} {g g0 : Gm} {o0 : Option O} {k : R → Prop} {kk : Addr → List (PySem.Str × D) → Prop} {kd : D → Prop} {dd : D}
theorem x_tr_nx : (N.tr K c i u).nx = N.nx := rfl
theorem x_tr_rt : (N.tr K c i u).rt = N.rt := rfl
theorem x_tr_bk : (N.tr K c i u).bk = N.bk := rfl
theorem x_tr_ct : (N.tr K c i u).ct = N.ct := rfl
theorem x_tr_ex : (N.tr K c i u).ex C fs g = ∃ b, PySem.W.exmOne K (.ref C) c = some b ∧ (b = true → ∀ a d, u a (.ref C) d (N.su i) (g.set i (some (.exc a d C fs)))) ∧ (b = false → N.ex C fs g) := rfl
theorem x_su_nx : (N.su i).nx (o0 :: g0) = N.nx ((o0 :: g0).set i none) := rfl
theorem x_su_rt : (N.su i).rt = N.rt := rfl
theorem x_su_bk : (N.su i).bk (o0 :: g0) = N.bk ((o0 :: g0).set i none) := rfl
theorem x_su_ct : (N.su i).ct (o0 :: g0) = N.ct ((o0 :: g0).set i none) := rfl
theorem x_isB {p q : Bool} : aIsB [.bool p, .bool q] k = k (.p (.bool (decide (p = q)))) := rfl
theorem x_rp : rp (.p dd) kd = kd dd := rfl
theorem x_held0 : eHeld 0 a d (some (.exc a d C fs) :: g0) kk = (a = a ∧ d = d ∧ kk C fs) := rfl
theorem x_heldS {n : Nat} : eHeld (n + 1) a d (o0 :: g0) kk = eHeld n a d g0 kk := rfl
end
end VL

namespace VL
open PySem PySem.Spec PyProof.Rows L2

/-! ### 60. A value is unpacked -/
def sUnp (te : AE) (b : Bd) : AS := fun N g => te g (fun r g1 => rp r fun d => b d g1 N.nx) N.ex
/-- a list that was made, unpacked -/
def sUnl (te : AE) (is : List Nat) : AS := fun N g => te g (fun r g1 => match datu r with
  | some (.list ds) => is.length = ds.length ∧ bNames is ds g1 N.nx
  | _ => False) N.ex
section
variable {X : Cx} {W : WX} {B T T1 T2 : List Nat} {e tg : Expr} {es : List Expr} {te : AE} {b : Bd} {pos tp : Pos} {is : List Nat} {k : Nat}
theorem js_unp (he : JE X W T1 e te) (hg : JG X B T2 tg b) (hs : swapsWithSole [tg] e pos.line X.env = pure false := by rfl) (hw : swappedStores [tg] e X.env = pure none := by rfl)
    (h1 : (assignEach [tg] X.env).map (·.2) = [assign tg X.env] := by rfl) : JS X W B (T1 ++ T2) (.Assign [tg] e pos) (sUnp te b) := by
  refine ⟨PSi (ps_asg he.pe hg.pg hs hw h1) fun D σ H ⟨Z, g, w, N, S, h, ok, rt, ex⟩ => ?_⟩
  refine ⟨Z, g, w, _, N.ex, S, h, fun r v Z1 H1 g1 w1 f1 q1 O1 => ?_, ex.e app_l⟩
  cases r with
  | p d => exact ⟨Z1, g1, w1, d, N.nx, O1.so, O1.rr.p1.1, q1, fun g' w' σ' q F => (ok _ _ _ _ _ (O1.fin.trans F)).1 q⟩
  | sl i o => exact q1.elim
  | vw i o pl => exact q1.elim
  | ow o => exact q1.elim
theorem js_unl (hc : X.calm = true) (he : JE X W T1 e te) (hg : JGs X B es is) (hn : (assignEach es X.env).length = is.length := by rfl) (hst : (assignEach es X.env).findIdx? (·.1) = none := by rfl)
    (hs : swapsWithSole [.Tuple es k tp] e pos.line X.env = pure false := by rfl) (hw : swappedStores [.Tuple es k tp] e X.env = pure none := by rfl)
    (h1 : (assignEach [.Tuple es k tp] X.env).map (·.2) = [assign (.Tuple es k tp) X.env] := by rfl) : JS X W B (T1 ++ is) (.Assign [.Tuple es k tp] e pos) (sUnl te is) := by
  refine ⟨PSi (ps_asg he.pe (pg_unl hc hg.pgs hn hst) hs hw h1) fun D σ H ⟨Z, g, w, N, S, h, ok, rt, ex⟩ => ?_⟩
  refine ⟨Z, g, w, _, N.ex, S, h, fun r v Z1 H1 g1 w1 f1 q1 O1 => ?_, ex.e app_l⟩
  split at q1
  · rename_i ds ed
    obtain ⟨ql, q1⟩ := q1
    have hv := O1.rr.u (ds := [.list ds]) (by simp only [datL]; rw [ed])
    cases hv with
    | cons hv _ =>
    obtain ⟨a, xs, rfl, hx, rx⟩ := hv
    refine ⟨a, xs, rfl, hx, by rw [rx.length]; exact ql.symm, Z1, g1, w1, ds, N.nx, O1.so, rx, q1, fun g' w' σ' q F => (ok _ _ _ _ _ (O1.fin.trans F)).1 q⟩
  · exact q1.elim
end
/-! ### 61. while -/
def sWhile (tt : AT) (tb : AS) : AS := fun N g => ∃ W : Nat → Gm → Prop, (∃ m, W m g) ∧ ∀ m g, W m g → tt g (fun b g1 => if b = true then tb (N.loop fun g2 => ∃ m', m' < m ∧ W m' g2) g1 else N.nx g1) N.ex
theorem sWhile_go {tt : AT} {tb : AS} {N : AN} {g : Gm} (W : Nat → Gm → Prop) (m : Nat) (h0 : W m g)
    (st : ∀ m g (K : Gm → Prop), W m g → (∀ m' g', m' < m → W m' g' → K g') → tt g (fun b g1 => if b = true then tb (N.loop K) g1 else N.nx g1) N.ex) : sWhile tt tb N g :=
  ⟨W, ⟨m, h0⟩, fun m g w => st m g _ w fun m' g' l w' => ⟨m', l, w'⟩⟩
section
variable {X : Cx} {W : WX} {B T T1 T2 : List Nat} {c : Expr} {body : List Stmt} {tt : AT} {tb : AS} {pos : Pos}
theorem js_while (hp : PassesOwn (model X.prog X.w) X.A X.env X.xe) (hc : JT X W T1 c tt) (hb : JSs X W B T2 body tb) : JS X W B (T1 ++ T2) (.While c body [] pos) (sWhile tt tb) := by
  refine ⟨PSi (ps_while hp hc.pt hb.ps) fun D σ H ⟨Z, g, w, N, S, h, ok, rt, ex⟩ => ?_⟩
  obtain ⟨Wi, ⟨m0, w0⟩, turn⟩ := h
  refine ⟨fun m σ2 H2 => ∃ Z2 g2 w2, Fin X.K B (T1 ++ T2) Z H g w σ Z2 H2 g2 w2 σ2 ∧ Wi m g2, ⟨m0, Z, g, w, (Fin.refl S).mono fun _ m => absurd m (by simp), w0⟩, ?_⟩
  rintro m σ2 H2 ⟨Z2, g2, w2, F2, wm⟩
  have ll : ∀ {i}, i ∈ (T1 ++ T2) ++ (T1 ++ T2) → i ∈ T1 ++ T2 := fun h => (List.mem_append.mp h).elim id id
  have ex2 : exS X.K W B (T1 ++ T2) Z2 H2 g2 w2 σ2 N.ex := fun C fs d Z' H' g' w' σ' e F xd => ex C fs d Z' H' g' w' σ' e ((F2.trans F).mono fun _ h => ll h) xd
  refine ⟨Z2, g2, w2, _, N.ex, F2.so, turn m g2 wm, fun b Z3 H3 g3 w3 q3 S3 P3 => ?_, ex2.e app_l⟩
  have F3 : Fin X.K B T1 Z2 H2 g2 w2 σ2 Z3 H3 g3 w3 σ2 := ⟨S3, P3, fun _ _ => rfl, rfl⟩
  have F23 : Fin X.K B (T1 ++ T2) Z H g w σ Z3 H3 g3 w3 σ2 := (F2.trans F3).mono fun j hj => (List.mem_append.mp hj).elim id fun h => List.mem_append.mpr (.inl h)
  cases b with
  | false =>
    simp only [Bool.false_eq_true, ↓reduceIte] at q3 ⊢
    exact (ok _ _ _ _ _ F23).1 q3
  | true =>
    simp only [↓reduceIte] at q3 ⊢
    refine ⟨fun σ4 H4 => ∃ m', m' < m ∧ ∃ Z4 g4 w4, Fin X.K B (T1 ++ T2) Z H g w σ Z4 H4 g4 w4 σ4 ∧ Wi m' g4, fun σ' H' h => h, ?_⟩
    have tail : ∀ {Z5 H5 g5 w5 σ5}, Fin X.K B T2 Z3 H3 g3 w3 σ2 Z5 H5 g5 w5 σ5 → Fin X.K B (T1 ++ T2) Z H g w σ Z5 H5 g5 w5 σ5 := fun F => (F23.trans F).mono fun j hj => (List.mem_append.mp hj).elim id fun h => List.mem_append.mpr (.inr h)
    refine ⟨Z3, g3, w3, _, S3, q3, fun Z5 H5 g5 w5 σ5 F5 => ?_, fun r v Z5 H5 g5 w5 σ5 f5 q5 O5 sb => ?_, ?_⟩
    · exact ⟨fun ⟨m', l, q⟩ => ⟨m', l, Z5, g5, w5, tail F5, q⟩, fun q => (ok _ _ _ _ _ (tail F5)).1 q, fun ⟨m', l, q⟩ => ⟨m', l, Z5, g5, w5, tail F5, q⟩⟩
    · refine rt r v Z5 H5 g5 w5 σ5 f5 q5 ((O5.after F23.ps).mono fun j hj => (List.mem_append.mp hj).elim id fun h => List.mem_append.mpr (.inr h)) fun j hj => (sb j hj).trans (F23.sb j hj)
    · intro C fs d Z6 H6 g6 w6 σ6 e F6 xd
      exact ex C fs d Z6 H6 g6 w6 σ6 e (tail F6) xd
end
/-! ### 62. C(), C an own error without an init -/
section
variable {X : Cx} {C : Addr} {bmB : List Value} {B newId initId : String}
theorem pmk_own0 {x : Str} {p pos : Pos} (F : ExcBaseFacts B newId initId bmB) (q : PySem.W.excIn X.K C bmB newId = true) (gC : X.mg x = some (.ref C)) (kC : PySem.W.keepIn X.K (.ref C) = true) (r : Raises X (.ref C)) (hg : Gl X x)
    (hdb : (x == ("__debug__" : Str)) = false := by decide) : PMk X (.Call (.Name x p) [] [] pos) (tMk0 C) := by
  intro pins s σ H Q I h
  refine wpAny_Call_Name_kw (ld_glob I hg gC ?_ hdb)
  refine PySem.W.callWith_K0 I.kIn kC ?_
  obtain ⟨bm, N, nm, qn, bs, hdct, sn, sub, ab, col, dd, k0, k1, k2, k3, k5, mN, hC, hN, hni, T⟩ := exc_obj I.kIn q
  refine wpAny_call_exc_subT F T hC hN hni (fun h' e hm => ?_) (Nat.zero_le _)
  exact mk_of I hm r h (I.hok.gone hm.new)
end
def Mk0Ok (K : PySem.W.Frag) (mg : Str → Option Value) (x : Str) (C : Addr) : Prop := ∀ {X : Cx} {p pos : Pos}, X.K = K → X.mg = mg → Gl X x → PMk X (.Call (.Name x p) [] [] pos) (tMk0 C)
theorem mk0_of {K : PySem.W.Frag} {mg : Str → Option Value} {x : Str} {C : Addr} (q : PySem.W.excIn K C [.type "ValueError", .type "Exception", .type "BaseException", .type "object"] "ValueError.__new__" = true) (gC : mg x = some (.ref C)) (kC : PySem.W.keepIn K (.ref C) = true)
    (b : PySem.W.subIn K (.ref C) (.type "BaseException") = some true) (t : PySem.W.typeIn K (.ref C) = some (.type "type")) (hdb : (x == ("__debug__" : Str)) = false) : Mk0Ok K mg x C := by
  intro X p pos hK hm hg
  subst hK hm
  exact pmk_own0 PySem.F.excBase_ValueError q gC kC (raises_own b t) hg hdb
section
variable {X : Cx} {W : WX} {B : List Nat} {p pos pos' : Pos} {C : Addr} {x : Str}
theorem js_raise0M (hc : X.calm = true) (tk : Takes X W) (M : Mk0Ok X.K X.mg x C) (hg : Gl X x) : JS X W B [] (.Raise (some (.Call (.Name x p) [] [] pos)) none pos') (sRaise0 C) := js_raise0 hc tk (M rfl rfl hg)
end
/-! ### 63. A method that reads: of a list, a text, a dict -/
/-- of what type, at which datum -/
def tyOk (T : String) : D → Bool
  | .list _ => T == "list"
  | .str _ => T == "str"
  | .dict _ => T == "dict"
  | _ => false
def rRm (T : String) (T2 : List Nat) (aop : Aop) (to : AE) (ta : AA) : AE := fun g Q E => to g (fun r1 g1 => match datu r1 with
  | some d1 => tyOk T d1 = true ∧ grd r1 T2 (ta g1 (fun rs g2 => match datL datu rs with
    | some ds => aop (d1 :: ds) fun rr => Q rr g2
    | none => False) E)
  | none => False) E
section
variable {X : Cx} {W : WX} {T1 T2 : List Nat} {o e : Expr} {es : List Expr} {to : AE} {ta : AA} {name : Str} {apos cpos : Pos} {T id : String} {r : V → List V → Hp → VK → Prop} {aop : Aop}
theorem PDu.ty {K : PySem.W.Frag} {Z : ZS} {H : Hp} {v : V} {d : D} (h : PDu K Z H v d) (e : tyOk T d = true) : tyV K T v H := by
  cases d with
  | list ds => obtain ⟨a, xs, rfl, hx, _⟩ := h; exact .inl ⟨eq_of_beq e, xs, hx⟩
  | str x => rw [PDt.str_i h]; exact eq_of_beq e
  | dict es => obtain ⟨a, xs, rfl, hx, _⟩ := h; exact .inr (.inr (.inl ⟨eq_of_beq e, .inl ⟨xs, hx⟩⟩))
  | none => cases e
  | bool b => cases e
  | int i => cases e
  | tuple ds => cases e
theorem lift_rm (hp : POu X.K (mr r) aop) {σ : L2.St} {H : Hp} {Q : VK} (h : lift X.K W (T1 ++ T2) (rRm T T2 aop to ta) σ H Q) : tBM X.K T r (lift X.K W T1 to) (liftA X.K W T2 ta) σ H Q := by
  obtain ⟨Z, g, w, q, E, S, h, ok, ex⟩ := h
  refine ⟨Z, g, w, _, E, S, h, fun r1 v1 Z1 H1 g1 w1 f1 q1 O1 => ?_, ex.of⟩
  have ex1 := ex.then O1.ps
  split at q1
  · rename_i d1 e1
    obtain ⟨ty, q1⟩ := q1
    obtain ⟨gr, q1⟩ := grd.get q1
    have hv := O1.rr.u (ds := [d1]) (by simp only [datL]; rw [e1])
    cases hv with
    | cons hv _ =>
    refine ⟨hv.ty ty, Z1, g1, w1, _, E, O1.so, q1, fun rs vs Z2 H2 g2 w2 f2 q2 O2 => ?_, ex1⟩
    cases et : datL datu rs with
    | none => rw [et] at q2; exact q2.elim
    | some ds =>
      rw [et] at q2
      have O3 := O1.cons O2 gr
      have hv3 := O3.rr.u (ds := d1 :: ds) (by simp only [datL]; rw [e1, et])
      obtain ⟨x, xs, e, hr⟩ := hp Z2 H2 (v1 :: vs) (d1 :: ds) _ Q O2.so.zal hv3 q2 fun rr v Z' H' f kk x rr1 => ok rr v Z' H' g2 w2 f kk (O3.op x rr1)
      cases e
      exact hr
  · exact q1.elim
theorem je_rm (T : String) (pa : PlainAttrs T) (slot : Slot T name id) (hty : typeOf (.builtin id) = pure (.type "method_descriptor")) (hr : MtR X id r) (hp : POu X.K (mr r) aop) (ho : JE X W T1 o to) (ha : JA X W T2 (e :: es) ta)
    (hbase : attributeBase o name X.env (eval o X.env) = eval o X.env := by rfl)
    (hfew : ((backTo cpos (starEach (e :: es) X.env)).all (fun x => !x.1) && (backToKw cpos (keywordEach [] X.env)).all (fun x => x.1.isSome)
      && decide ((e :: es).length + ([] : List Keyword).length + (if ([] : List Keyword).isEmpty then 0 else 1) < 30)) = true := by rfl)
    (hline : (apos.endLine == cpos.line) = true := by rfl) (hs : starEach (e :: es) X.env = (false, eval e X.env) :: starEach es X.env := by rfl) (hplain : (backTo cpos (starEach es X.env)).any (·.1) = false := by rfl) :
    JE X W (T1 ++ T2) (.Call (.Attribute o name apos) (e :: es) [] cpos) (rRm T T2 aop to ta) :=
  ⟨PEi (pe_bm pa slot hty hr ho.pe ha.pa hbase hfew hline hs hplain) fun σ H Q h => lift_rm hp h⟩
theorem je_rm0 (T : String) (pa : PlainAttrs T) (slot : Slot T name id) (hty : typeOf (.builtin id) = pure (.type "method_descriptor")) (hr : MtR X id r) (hp : POu X.K (mr r) aop) (ho : JE X W T1 o to)
    (hbase : attributeBase o name X.env (eval o X.env) = eval o X.env := by rfl) (hline : (apos.endLine == cpos.line) = true := by rfl) :
    JE X W (T1 ++ []) (.Call (.Attribute o name apos) [] [] cpos) (rRm T [] aop to aNil) := by
  refine ⟨PEi (pe_bm0 pa slot hty hr ho.pe hbase hline) fun σ H Q h => ?_⟩
  obtain ⟨Z, g, w, q, E, S, h, ok, ex⟩ := lift_rm (T2 := []) (ta := aNil) hp h
  refine ⟨Z, g, w, q, E, S, h, fun r1 v1 Z1 H1 g1 w1 f1 q1 O1 => ?_, ex⟩
  obtain ⟨ty, Z2, g2, w2, q2, E2, S2, h2, ok2, ex2⟩ := ok r1 v1 Z1 H1 g1 w1 f1 q1 O1
  exact ⟨ty, ok2 [] [] Z2 H1 g2 w2 [] h2 (Out.nil S2)⟩
end
/-! ### 64. list.count, list.index, str.index -/
def cntD (ds : List D) (d : D) : Nat := ds.countP fun z => PyData.eqv z d
def rCntF (K : PySem.W.Frag) : V → List V → Hp → VK → Prop := fun x xs H Q => ∃ (p : Addr) (ys : List V) (y : V), x = .ref p ∧ xs = [y] ∧ SqL K H p ys ∧ flatV y = true ∧ ys.all flatV = true ∧ Q (.int (ys.countP fun z => eqV z y : Nat)) H
theorem count_eqU {y : V} : ∀ {ys : List V} {us : List Value}, Vals ys us → ys.all flatV = true → us.countP (eqU y) = ys.countP fun z => eqV z y
  | _, _, .nil, _ => rfl
  | z :: ys, u :: us, .cons r t, f => by
    rw [List.all_cons, Bool.and_eq_true] at f
    rw [List.countP_cons, List.countP_cons, count_eqU t f.2, eqU_of r f.1]
theorem mt_countF {X : Cx} : MtR X "list.count" (rCntF X.K) := by
  intro pins s σ H x xs v us Q I rx rxs h
  obtain ⟨p, ys, y, rfl, rfl, hs, fy, fys, q⟩ := h
  cases rx
  obtain ⟨u, rfl, ru⟩ := rxs.one
  obtain ⟨its, rv, ⟨⟨cls, dd, data, sl⟩, n, ho, hc, hdn, hd⟩, hlen⟩ := I.list hs
  simp only at hc hd
  subst hc hd
  refine call_meets PySem.F.slot_list_count ⟨_, ho, rfl⟩ PySem.F.entry_list_count (PySem.F.args_list_count_2 _ _)
    (SeqAt.list_countAt p its.toArray n dd sl u (eqU y)) ⟨ho, fun z hz => mem_eqAt ru fy rv fys z (by simpa using hz), ?_⟩
  have ec : its.toArray.toList.countP (eqU y) = ys.countP fun z => eqV z y := by simpa using count_eqU rv fys
  refine ⟨.int (ys.countP fun z => eqV z y : Nat), H, I.tok _, ⟨s.toks, ?_⟩, q⟩
  show Value.int ((its.toArray.toList.countP (eqU y) : Nat) : Int) s.toks = Value.int ((ys.countP fun z => eqV z y : Nat) : Int) s.toks
  rw [ec]
def aCnt : Aop
  | [.list ds, d], k => isFlat d = true ∧ ds.all isFlat = true ∧ k (.p (.int (cntD ds d : Nat)))
  | _, _ => False
theorem PDu.fl {K : PySem.W.Frag} {Z : ZS} {H : Hp} {v : V} {d : D} (h : PDu K Z H v d) (e : isFlat d = true) : v = flV d := by
  cases d with
  | none => exact PDt.non_i h
  | bool b => exact PDt.bl_i h
  | int i => exact PDt.int_i h
  | str x => exact PDt.str_i h
  | list ds => cases e
  | tuple ds => cases e
  | dict es => cases e
theorem cnt_eq {d : D} (e : isFlat d = true) : ∀ {ds : List D}, ds.all isFlat = true → ((ds.map flV).countP fun z => eqV z (flV d)) = cntD ds d
  | [], _ => rfl
  | z :: ds, f => by
    rw [List.all_cons, Bool.and_eq_true] at f
    unfold cntD
    rw [List.map_cons, List.countP_cons, List.countP_cons, cnt_eq e f.2, flV_eqv f.1 e]
    rfl
theorem flat_all {ds : List D} : (ds.map flV).all flatV = true ∨ ¬ ds.all isFlat = true := by
  by_cases h : ds.all isFlat = true
  · exact .inl (all_flV h)
  · exact .inr h
theorem ok_cnt {K : PySem.W.Frag} : POu K (mr (rCntF K)) aCnt := by
  intro Z H vs ds k Q zl h2 h ret
  unfold aCnt at h
  split at h
  · rename_i ds d k'
    cases h2 with
    | cons h1 t =>
    cases t with
    | cons h2 t =>
    cases t
    rename_i v1 v2
    obtain ⟨f1, f2, h⟩ := h
    obtain ⟨a, xs, rfl, hx, rx⟩ := h1
    have e2 := PDu.fl h2 f1
    have e1 := rx.fl f2
    subst e1 e2
    refine ⟨_, _, rfl, a, _, _, rfl, rfl, hx, flV_flat f1, all_flV f2, ?_⟩
    rw [cnt_eq f1 f2]
    exact ret _ _ Z H [] h (Ext.refl zl) (.p (.int _))
  · exact h.elim
/-- the first place of d -/
def fstD (ds : List D) (d : D) (j : Nat) : Prop := (∃ z, ds[j]? = some z ∧ PyData.eqv z d = true) ∧ ∀ (m : Nat) (z : D), m < j → ds[m]? = some z → PyData.eqv z d = false
def aIdx : Aop
  | [.list ds, d], k => isFlat d = true ∧ ds.all isFlat = true ∧ ∃ j, fstD ds d j ∧ k (.p (.int (j : Nat)))
  | _, _ => False
theorem ok_idx {K : PySem.W.Frag} : POu K (mr (rIndex K)) aIdx := by
  intro Z H vs ds k Q zl h2 h ret
  unfold aIdx at h
  split at h
  · rename_i ds d k'
    cases h2 with
    | cons h1 t =>
    cases t with
    | cons h2 t =>
    cases t
    obtain ⟨f1, f2, j, ⟨⟨z, ez, zz⟩, no⟩, h⟩ := h
    obtain ⟨a, xs, rfl, hx, rx⟩ := h1
    have e2 := PDu.fl h2 f1
    have e1 := rx.fl f2
    subst e1 e2
    have fz : isFlat z = true := List.all_eq_true.mp f2 z (List.mem_of_getElem? ez)
    refine ⟨_, _, rfl, a, _, _, j, flV z, rfl, rfl, hx, flV_flat f1, all_flV f2, by rw [List.getElem?_map, ez]; rfl, by rw [flV_eqv fz f1]; exact zz, fun m z' l e => ?_, ret _ _ Z H [] h (Ext.refl zl) (.p (.int _))⟩
    rw [List.getElem?_map] at e
    obtain ⟨y, ey, rfl⟩ := Option.map_eq_some_iff.mp e
    rw [flV_eqv (List.all_eq_true.mp f2 y (List.mem_of_getElem? ey)) f1]
    exact no m y l ey
  · exact h.elim
def rSIdx : V → List V → Hp → VK → Prop := fun x xs H Q => ∃ a b i rest, x = .str a ∧ xs = [.str b] ∧ Builtin.Str.occurrences a b 0 a.length 1 = i :: rest ∧ Q (.int (i : Nat)) H
def aSIdx : Aop
  | [.str a, .str b], k => ∃ i rest, Builtin.Str.occurrences a b 0 a.length 1 = i :: rest ∧ k (.p (.int (i : Nat)))
  | _, _ => False
theorem ok_sidx {K : PySem.W.Frag} : POu K (mr rSIdx) aSIdx := by
  intro Z H vs ds k Q zl h2 h ret
  unfold aSIdx at h
  split at h
  · rename_i a b
    cases h2 with
    | cons h1 t =>
    cases t with
    | cons h2 t =>
    cases t
    obtain ⟨i, rest, e, h⟩ := h
    rw [PDt.str_i h1, PDt.str_i h2]
    exact ⟨_, _, rfl, a, b, i, rest, rfl, rfl, e, ret _ _ Z H [] h (Ext.refl zl) (.p (.int _))⟩
  · exact h.elim
end VL

    set_option Elab.async false
    set_option linter.all false
    set_option maxRecDepth 100000
    set_option maxHeartbeats 4000000
    namespace VL
    open PySem PySem.Spec PyProof.Rows L2

    /-! ### 65. The readings of 60 to 64 at a state that is written out -/
    theorem x_sUnp {te : AE} {b : Bd} {N : AN} {g0 : Gm} {o0 : Option O} : sUnp te b N (o0 :: g0) = (fun (g : Gm) => (te g (fun r g1 => rp r fun d => b d g1 N.nx) N.ex : Prop)) (o0 :: g0) := rfl
theorem x_sUnl {te : AE} {is : List Nat} {N : AN} {g0 : Gm} {o0 : Option O} : sUnl te is N (o0 :: g0) = (fun (g : Gm) => (te g (fun r g1 => match datu r with
  | some (.list ds) => is.length = ds.length ∧ bNames is ds g1 N.nx
  | _ => False) N.ex : Prop)) (o0 :: g0) := rfl
theorem x_rRm {T : String} {T2 : List Nat} {aop : Aop} {to : AE} {ta : AA} {Q : R → Gm → Prop} {E : EX} {g0 : Gm} {o0 : Option O} : rRm T T2 aop to ta (o0 :: g0) Q E = (fun (g : Gm) => (to g (fun r1 g1 => match datu r1 with
  | some d1 => tyOk T d1 = true ∧ grd r1 T2 (ta g1 (fun rs g2 => match datL datu rs with
    | some ds => aop (d1 :: ds) fun rr => Q rr g2
    | none => False) E)
  | none => False) E : Prop)) (o0 :: g0) := rfl
section
variable {g0 : Gm} {o0 : Option O} {k : R → Prop} {i : Int} {x y : Str} {xs ds : List D} {d : D} {es : List (D × D)}
theorem x_cnt : aCnt [.list ds, d] k = (isFlat d = true ∧ ds.all isFlat = true ∧ k (.p (.int (cntD ds d : Nat)))) := rfl
theorem x_idx : aIdx [.list ds, d] k = (isFlat d = true ∧ ds.all isFlat = true ∧ ∃ j, fstD ds d j ∧ k (.p (.int (j : Nat)))) := rfl
theorem x_sidx : aSIdx [.str x, .str y] k = ∃ i rest, Builtin.Str.occurrences x y 0 x.length 1 = i :: rest ∧ k (.p (.int (i : Nat))) := rfl
theorem x_tyOk_l : tyOk "list" (.list ds) = true := rfl
theorem x_tyOk_s : tyOk "str" (.str x) = true := rfl
theorem x_tyOk_d : tyOk "dict" (.dict es) = true := rfl
end
theorem x_nc0 : ((0 : Nat) : Int) = 0 := rfl
theorem x_nc1 : ((1 : Nat) : Int) = 1 := rfl
theorem x_nc2 : ((2 : Nat) : Int) = 2 := rfl
theorem x_nc3 : ((3 : Nat) : Int) = 3 := rfl
theorem x_nc4 : ((4 : Nat) : Int) = 4 := rfl
theorem x_nc5 : ((5 : Nat) : Int) = 5 := rfl
theorem x_nc6 : ((6 : Nat) : Int) = 6 := rfl
theorem x_nc7 : ((7 : Nat) : Int) = 7 := rfl
theorem x_nc8 : ((8 : Nat) : Int) = 8 := rfl
theorem x_nc9 : ((9 : Nat) : Int) = 9 := rfl
end VL


/-! ### 65. enumerate(tuple) -/
namespace PySem
open Sem (wp)
open AutoSeq1 (wpAny_loadPart')
theorem vl_meets_enumT (l : Addr) (items : Array Value) :
    Meets (Builtin.«enumerate.__new__» ⟨[.type "enumerate", .ref l], []⟩) (fun _ R s => s.heap.IsTuple l items ∧
      R (.ok (.ret (.ref (s.heap.push { cls := .type "tuple_iterator", data := .fields #[.ref l, .int 0 0] }).objs.size)))
        { s with heap := (s.heap.push { cls := .type "tuple_iterator", data := .fields #[.ref l, .int 0 0] }).push { cls := .type "enumerate", data := .fields #[.none, .bool false, .ref s.heap.objs.size, rawInt 0, .none, .none] } }) :=
  .of_wp fun prog w A R s h => by
    obtain ⟨hp, g, d, tk, os⟩ := s; obtain ⟨hl, h⟩ := h
    have hsub := sub_enumerate
    have hL : Heap.IsTuple (Shared.heap ⟨hp, g, d, tk, os⟩) l items := hl
    wp_walk
    refine wpAny_stack_any fun st => wpAny_pure ?_
    split
    · rename_i c _ _ _ _ _
      cases (c == Value.type "enumerate")
      · wp_walk using wpAny_pyIter_tuple hL
        exact ⟨_, rfl, h⟩
      · wp_walk using wpAny_pyIter_tuple hL
        exact ⟨_, rfl, h⟩
    · wp_walk using wpAny_pyIter_tuple hL
      exact ⟨_, rfl, h⟩
section
variable {prog : Program} {w : World} {A : Around} {E : Value → Shared → Prop} {s : Shared}
theorem vl_call_enumT {l : Addr} {items : Array Value} {Q : Value → Shared → Prop} (hL : s.heap.IsTuple l items)
    (h : ∀ h', IsEnum h' (s.heap.objs.size + 1) s.heap.objs.size 0 .none → h'.IsTupleIter s.heap.objs.size l 0 → h'.objs.size = s.heap.objs.size + 2 →
      (∀ b o, s.heap.get? b = some o → h'.get? b = some o) → Q (.ref (s.heap.objs.size + 1)) { s with heap := h' }) :
    wpAny (model prog w) A (call (.type "enumerate") [.ref l]) Q E s := by
  refine callType_new F.called_enumerate (by decide) (F.typeCall_enumerate_1 _) (F.newCall_enumerate_1 _) (fun obj => F.args_object_init_2 obj _) F.entry_enumerate_new
    (vl_meets_enumT l items) ⟨hL, ?_⟩
  have hz : (s.heap.push { cls := .type "tuple_iterator", data := .fields #[.ref l, .int 0 0] }).objs.size = s.heap.objs.size + 1 := Heap.size_push ..
  show _ ∧ _
  rw [hz]
  have he : IsEnum ((s.heap.push { cls := .type "tuple_iterator", data := .fields #[.ref l, .int 0 0] }).push
      { cls := .type "enumerate", data := .fields #[.none, .bool false, .ref s.heap.objs.size, rawInt 0, .none, .none] }) (s.heap.objs.size + 1) s.heap.objs.size 0 .none := by
    have := Heap.get?_push_size (s.heap.push { cls := .type "tuple_iterator", data := .fields #[.ref l, .int 0 0] })
      (o := { cls := .type "enumerate", data := .fields #[.none, .bool false, .ref s.heap.objs.size, rawInt 0, .none, .none] }) rfl
    rw [hz] at this; exact this
  refine ⟨⟨_, he, rfl⟩, h _ he ⟨_, Heap.get?_push_of_some _ (Heap.get?_push_size _ rfl), rfl, rfl⟩ (by rw [Heap.size_push, hz]) fun b o x => Heap.get?_push_of_some _ (Heap.get?_push_of_some _ x)⟩
end
end PySem
namespace VL
open PySem PySem.Spec PyProof.Rows L2
/-- the tuple at a, each item in a new pair -/
def IteT (K : PySem.W.Frag) (a : Addr) : It :=
  ⟨fun i H => ∃ (xs : List V) (x : V), SqT K H a xs ∧ xs[i]? = some x, fun i H v H' => ∃ T x, v = .ref T ∧ H T = none ∧ H' = upd H T (.tup [.int (i : Nat), x]) ∧ ∀ xs, SqT K H a xs → xs[i]? = some x, fun i H => ∃ xs : List V, SqT K H a xs ∧ xs.length = i⟩
theorem turn_enumT {P : Program} {w : World} {K : PySem.W.Frag} {elts : List Expr} {kk : Nat} {tpos : Pos} (a e it : Addr) :
    Turn P w K (.Tuple elts kk tpos) (IteT K a) [e, it] e (fun i h => (∃ old, IsEnum h e it ((i : Nat) : Int) old) ∧ h.IsTupleIter it a i ∧ e ≠ it) where
  mem := by simp
  obj := fun i h st b hb => by
    obtain ⟨⟨old, he⟩, ⟨o, ho, hc, hd⟩, _⟩ := st
    have e' : b = e ∨ b = it := by simpa using hb
    rcases e' with z | z
    · rw [z]; exact ⟨_, he, fun v q => nomatch q⟩
    · rw [z]; exact ⟨o, ho, fun v q => by rw [hd] at q; cases q⟩
  keep := fun i h h' st k => let ⟨⟨old, he⟩, hi, hne⟩ := st; ⟨⟨old, k e (by simp) _ he⟩, hi.at fun o q => k it (by simp) o q, hne⟩
  item := by
    intro X hP hw hK hc i pins s σ H E I hf st hg
    subst hP hw hK
    obtain ⟨⟨old, he⟩, hit, hne⟩ := st
    obtain ⟨xs, x, hq, hx⟩ := hg
    obtain ⟨its, rv, p, hz⟩ := I.tuple hq
    have pt : s.heap.IsTuple a its.toArray := p
    obtain ⟨u, hu, ru⟩ := rv.get hx
    have hel : e < s.heap.objs.size := Heap.lt_size he
    have hil : it < s.heap.objs.size := by obtain ⟨_, q, _⟩ := hit; exact Heap.lt_size q
    have ai : a ≠ it := fun z => by
      obtain ⟨o1, q1, c1, _⟩ := pt
      obtain ⟨o2, q2, c2, _⟩ := hit
      rw [z, q2] at q1
      cases q1
      rw [c2] at c1
      exact absurd c1 (by decide)
    have ae : e ≠ a := fun z => by
      obtain ⟨o1, q1, c1, _⟩ := pt
      rw [← z] at q1
      have q2 := he.symm.trans q1
      cases q2
      exact absurd (show Value.type "enumerate" = Value.type "tuple" from c1) (by decide)
    have D := Draws.tuple (prog := X.prog) (w := X.w) (A := X.A.in1) (I.ok.hd hc) it a ai its.toArray
    have hlt : i < its.toArray.size := by
      have := (List.getElem?_eq_some_iff.mp hu).1
      simpa using this
    refine wpAny_pyNext_enum_itemD D he ⟨hit, pt⟩ hlt hne (by simp [hne, ae]) fun x' h' tk hP ho hst hT hsz hk => ?_
    have exu : x' = u := by
      have h1 : its.toArray[i]? = some x' := hP
      have h2 : its.toArray[i]? = some u := by simpa using hu
      exact Option.some.inj (h1.symm.trans h2)
    subst exu
    obtain ⟨hit', _⟩ := hst
    refine ⟨_, rfl, wpAny_letOwnedTupleGo_enum (s := { s with heap := h', toks := tk + 1 }) ho fun h'' he' sb => ?_⟩
    have hT2 : h''.get? s.heap.objs.size = some { cls := .type "tuple", data := .seq #[.int i tk, x'] } := (sb.2 _ (Nat.ne_of_gt hel)).trans hT
    have new : ObjOk X.prog X.w (upd H s.heap.objs.size (.tup [.int (i : Nat), x])) h'' s.heap.objs.size (.tup [.int (i : Nat), x]) :=
      ⟨by show 2 ≤ sizeLine; decide, [.int i tk, x'], .cons ⟨_, rfl⟩ (.cons ru .nil), ⟨_, hT2, rfl, _, rfl⟩⟩
    have I1 : Inv X pins σ (upd H s.heap.objs.size (.tup [.int (i : Nat), x])) { s with heap := h'', toks := tk + 1 } :=
      I.turnedNew (ch := [e, it]) (fun b ob hb q => (sb.2 b (fun z => hb (by simp [z]))).trans (hk b ob (fun z => hb (by simp [z])) (fun z => hb (by simp [z])) q)) hf (Nat.le_refl _) new
    refine ⟨.ref s.heap.objs.size, _, I1, rfl, ⟨_, x, rfl, I.hok.fresh (Nat.le_refl _), rfl, fun ys hy => by rw [I.tuple_inj hy hq]; exact hx⟩, ⟨⟨x', ?_⟩, hit'.at fun o q => (sb.2 it (Ne.symm hne)).trans q, hne⟩, fun b hb => ?_⟩
    · have e1 : ((i + 1 : Nat) : Int) = (i : Int) + 1 := by omega
      rw [e1]; exact he'
    · have hb' : b < s.heap.objs.size := by
        have e' : b = e ∨ b = it := by simpa using hb
        rcases e' with z | z
        · rw [z]; exact hel
        · rw [z]; exact hil
      rw [upd_ne (Nat.ne_of_lt hb')]
      exact (hf b hb).1
  done := by
    intro X hP hw hK hc i pins s σ H E I hf st hg
    subst hP hw hK
    obtain ⟨⟨old, he⟩, hit, hne⟩ := st
    obtain ⟨xs, hq, hx⟩ := hg
    obtain ⟨its, rv, p, hz⟩ := I.tuple hq
    have pt : s.heap.IsTuple a its.toArray := p
    have ai : a ≠ it := fun z => by
      obtain ⟨o1, q1, c1, _⟩ := pt
      obtain ⟨o2, q2, c2, _⟩ := hit
      rw [z, q2] at q1
      cases q1
      rw [c2] at c1
      exact absurd c1 (by decide)
    have D := Draws.tuple (prog := X.prog) (w := X.w) (A := X.A.in1) (I.ok.hd hc) it a ai its.toArray
    obtain ⟨f0, f1, f2, f3, f4, f5⟩ := hf it (by simp)
    have hl := rv.length
    have hz : i = its.toArray.size := by simp; omega
    subst hz
    exact wpAny_pyNext_enum_endD D he ⟨hit, pt⟩ fun h' eb => ⟨rfl, I.turned (t' := s.toks) (fun b o hb q => eb b o hb q) f0 f1 f3 f4 f5⟩
  self := fun A i s Q E st h => let ⟨⟨_, he⟩, _⟩ := st; wpAny_pyIter_enum he h
def iEnum2 (K : PySem.W.Frag) (ta : TA) : TI := fun σ H R => ta σ H fun vs H1 => ∃ a xs, vs = [.ref a] ∧ ((SqL K H1 a xs ∧ R (Ite K a) H1) ∨ (SqT K H1 a xs ∧ R (IteT K a) H1))
theorem pi_enum2 {X : Cx} {e : Expr} {ta : TA} {p pos tpos : Pos} {elts : List Expr} {kk : Nat} (hg : Gl X "enumerate") (hm : X.mg "enumerate" = none) (ha : PA X [e] ta) (hs : starEach [e] X.env = [(false, eval e X.env)] := by rfl) :
    PI X (.Tuple elts kk tpos) (.Call (.Name "enumerate" p) [e] [] pos) (iEnum2 X.K ta) := by
  refine ⟨fun pins s σ H R I h => ?_⟩
  refine Call_ (ld_blt I hg hm boot_enumerate (PyProof.Rows.callWith_type1 (thn (ha.run pos pins s σ H _ I h) fun us s1 ⟨vs, H1, I1, r1, q1⟩ => ?_) hs rfl))
  obtain ⟨a, xs, ex, hq⟩ := q1
  subst ex
  cases r1 with
  | cons r rr =>
    cases rr
    cases r
    have fpo : ∀ b ∈ [s1.heap.objs.size + 1, s1.heap.objs.size], FpOk X pins H1 b := fun b hb => by
      have e' : b = s1.heap.objs.size + 1 ∨ b = s1.heap.objs.size := by simpa using hb
      have hle : s1.heap.objs.size ≤ b := by
        rcases e' with z | z
        · rw [z]; exact Nat.le_add_right _ _
        · rw [z]; exact Nat.le_refl _
      exact I1.fpOk hle (I1.hok.fresh hle)
    rcases hq with ⟨hq, q⟩ | ⟨hq, q⟩
    · obtain ⟨its, rv, p', hz⟩ := I1.list hq
      refine call_enumerate_list p'.isList fun h' he hit hsz hk => wpAny_pyIter_enum he ?_
      have I2 : Inv X pins σ H1 { s1 with heap := h' } := I1.kept (t' := s1.toks) hk
      exact ⟨s1.heap.objs.size + 1, [s1.heap.objs.size + 1, s1.heap.objs.size], _, _, H1, rfl, I2, turn_enum a (s1.heap.objs.size + 1) s1.heap.objs.size, ⟨⟨.none, he⟩, hit, Nat.succ_ne_self _⟩, fpo, q⟩
    · obtain ⟨its, rv, p', hz⟩ := I1.tuple hq
      refine vl_call_enumT (show s1.heap.IsTuple a its.toArray from p') fun h' he hit hsz hk => wpAny_pyIter_enum he ?_
      have I2 : Inv X pins σ H1 { s1 with heap := h' } := I1.kept (t' := s1.toks) hk
      exact ⟨s1.heap.objs.size + 1, [s1.heap.objs.size + 1, s1.heap.objs.size], _, _, H1, rfl, I2, turn_enumT a (s1.heap.objs.size + 1) s1.heap.objs.size, ⟨⟨.none, he⟩, hit, Nat.succ_ne_self _⟩, fpo, q⟩
def rEnum2 (te : AE) : AI := fun g Q E => te g (fun r g1 => match datu r with
  | some (.list ds) => Q (enumD ds) (slots1 r) g1
  | some (.tuple ds) => Q (enumD ds) (slots1 r) g1
  | _ => False) E
section
variable {K : PySem.W.Frag} {Z : ZS} {H : Hp} {a : Addr} {xs : List V} {ds : List D} {C : List Addr}
theorem ItD.eT (st : ∀ Z' H', Kp Z Z' H H' → SqT K H' a xs) (r : PDs K Z H xs ds) : ItD K Z H C (IteT K a) (enumD ds) where
  go := fun Z' H' i k c hi => by
    have hi : i < ds.length := by simpa [enumD] using hi
    exact ⟨xs, xs[i]'(by rw [r.length]; exact hi), st Z' H' k, by simp [r.length, hi]⟩
  yl := fun Z' H' i d x H'' k c zl hd ⟨T, y, e1, hT, e2, hy⟩ => by
    subst e1 e2
    have hx := hy xs (st Z' _ k)
    have hd : (ds[i]?).map (fun d => PyData.tuple [.int (i : Nat), d]) = some d := by
      unfold enumD at hd
      rw [List.getElem?_mapIdx] at hd
      exact hd
    obtain ⟨d0, ed, e3⟩ := Option.map_eq_some_iff.mp hd
    subst e3
    obtain ⟨v, h1, h2⟩ := r.get ed
    rw [h1] at hx
    cases hx
    exact ⟨_, Ext.new zl hT, .tup (.inl ⟨.inr rfl, .inl upd_same⟩) (.cons (.int _) (.cons ((h2.kp k).kp (Kp.new zl hT)) .nil))⟩
  st := fun Z' H' k c => ⟨xs, st Z' H' k, by rw [r.length]; simp [enumD]⟩
end
section
variable {X : Cx} {W : WX} {T : List Nat} {e : Expr} {te : AE} {elts : List Expr} {kk : Nat} {tpos p pos : Pos}
theorem ji_enum2 (he : JE X W T e te) (hg : Gl X "enumerate") (hm : X.mg "enumerate" = none) (hs : starEach [e] X.env = [(false, eval e X.env)] := by rfl) (hs2 : starEach (e :: []) X.env = (false, eval e X.env) :: starEach [] X.env := by rfl) :
    JI X W T (.Tuple elts kk tpos) (.Call (.Name "enumerate" p) [e] [] pos) (rEnum2 te) := by
  refine ⟨PIi (pi_enum2 hg hm (pa_cons he.pe pa_nil (hs := hs2)) hs) fun σ H R ⟨Z, g, w, q, E, S, h, ok, ex⟩ => ⟨Z, g, w, _, E, S, h, fun r v Z1 H1 g1 w1 f q1 O1 => ?_, ex⟩⟩
  show ∃ a xs, [v] = [.ref a] ∧ ((SqL X.K H1 a xs ∧ R (Ite X.K a) H1) ∨ (SqT X.K H1 a xs ∧ R (IteT X.K a) H1))
  have fin : ∀ {ds : List D} {sl : List Nat} {J : It} {C : List Addr}, q ds sl g1 → ItD X.K Z1 H1 C J ds → (∀ a ∈ C, H1 a ≠ none ∧ ∀ j, a ∈ w1 j → j ∈ sl) → R J H1 := fun q' it c => ok _ _ _ _ _ _ _ _ _ _ _ q' O1 it c
  have noC : ∀ {sl : List Nat}, ∀ a ∈ ([] : List Addr), H1 a ≠ none ∧ ∀ j, a ∈ w1 j → j ∈ sl := fun a m => absurd m (by simp)
  have plain : ∀ {d : D} {sl : List Nat}, PD X.K Z1 H1 v d → (match some d with
      | some (.list ds) => q (enumD ds) sl g1
      | some (.tuple ds) => q (enumD ds) sl g1
      | _ => False) → ∃ a xs, [v] = [.ref a] ∧ ((SqL X.K H1 a xs ∧ R (Ite X.K a) H1) ∨ (SqT X.K H1 a xs ∧ R (IteT X.K a) H1)) := fun {d sl} h q' => by
    cases h with
    | lst z h r => exact ⟨_, _, rfl, .inl ⟨.of h, fin q' (.e (fun Z' H' k _ => .of ((k _ z).2.trans h)) r) noC⟩⟩
    | non => exact q'.elim
    | bl b => exact q'.elim
    | int i => exact q'.elim
    | str x => exact q'.elim
    | tup c r => exact ⟨_, _, rfl, .inr ⟨c.sq, fin q' (.eT (fun Z' H' k => (c.kp k).sq) r) noC⟩⟩
    | dct _ _ _ _ => exact q'.elim
  have owned : ∀ {o : O} {sl : List Nat} {fo : List Addr}, RO X.K Z1 H1 o v fo → (∀ a ∈ fo, ∀ j, a ∈ w1 j → j ∈ sl) → (match sh o with
      | some (.list ds) => q (enumD ds) sl g1
      | some (.tuple ds) => q (enumD ds) sl g1
      | _ => False) → ∃ a xs, [v] = [.ref a] ∧ ((SqL X.K H1 a xs ∧ R (Ite X.K a) H1) ∨ (SqT X.K H1 a xs ∧ R (IteT X.K a) H1)) := fun {o sl fo} ro own q' => by
    cases ro with
    | p h => exact plain h q'
    | @ls a xs ds h r => exact ⟨_, _, rfl, .inl ⟨.of h, fin q' (.e (C := [a]) (fun Z' H' k c => .of ((c a (by simp)).trans h)) r) fun b m => by
        rw [List.mem_singleton.mp m]
        exact ⟨by rw [h]; simp, own a (by simp)⟩⟩⟩
    | dc _ _ _ => exact q'.elim
    | lo _ _ => exact q'.elim
    | dco _ _ _ => exact q'.elim
    | ins _ _ _ => exact q'.elim
    | val _ => exact q'.elim
    | exc _ => exact q'.elim
    | fl _ => exact q'.elim
  have hR := O1.rr
  cases hR with
  | p h t => cases t; exact plain h q1
  | sl e1 e2 ro t =>
    cases t
    rename_i i o
    by_cases hp : (∃ ns, o = .fl ns)
    · obtain ⟨ns, rfl⟩ := hp
      generalize w1 i = fw at ro
      cases ro with
      | @fl a _ c =>
        rcases c with ⟨z, r⟩ | c
        · exact ⟨a, _, rfl, .inl ⟨.inl r, fin q1 (.e (fun Z' H' k _ => .inl (Rd.kp r (k a z).2)) (ints_pd _)) noC⟩⟩
        · exact ⟨a, _, rfl, .inl ⟨c H1, fin q1 (.e (fun Z' H' _ _ => c H') (ints_pd _)) noC⟩⟩
    · refine owned (sl := [i]) ro (fun a m j mj => by rw [O1.so.dj j i a mj m]; simp) ?_
      cases o with
      | fl ns => exact absurd ⟨ns, rfl⟩ hp
      | _ => exact q1
  | vw h t =>
    cases t
    rename_i i o pl
    obtain ⟨rv, pre, fo, post, e1, e2, ro, _, _⟩ := h
    exact owned (sl := [i]) ro (fun a m j mj => by rw [O1.so.dj j i a mj (by rw [e2]; simp [m])]; simp) q1
  | ow h t =>
    cases t
    exact owned (sl := []) h (fun a m j mj => absurd mj (O1.dw a (by simp [m]) j)) q1
end
theorem x_rEnum2 {te : AE} {Q : List D → List Nat → Gm → Prop} {E : EX} {g0 : Gm} {o0 : Option O} : rEnum2 te (o0 :: g0) Q E = (fun (g : Gm) => (te g (fun r g1 => match datu r with
  | some (.list ds) => Q (enumD ds) (slots1 r) g1
  | some (.tuple ds) => Q (enumD ds) (slots1 r) g1
  | _ => False) E : Prop)) (o0 :: g0) := rfl
end VL

namespace VL
open PySem PySem.Spec PyProof.Rows L2

/-! ### 70. int(text), zip, xs[::-1] -/
def aIntX : Aop
  | [.str x], k => ∃ n, PySem.intText? x = some n ∧ x.length ≤ 640 ∧ k (.p (.int n))
  | ds, k => aInt ds k
theorem call_intX {X : Cx} : CallR X (.type "int") (fun xs H Q => ((∃ i, xs = [.int i] ∧ Q (.int i) H) ∨ ∃ k, xs = [.bl k] ∧ Q (.int (if k then 1 else 0)) H) ∨ ∃ a n, xs = [.str a] ∧ PySem.intText? a = some n ∧ a.length ≤ 640 ∧ Q (.int n) H) := CallR_or call_int1 call_int_str
theorem ok_intX {K : PySem.W.Frag} : POu K (fun xs H Q => ((∃ i, xs = [.int i] ∧ Q (.int i) H) ∨ ∃ k, xs = [.bl k] ∧ Q (.int (if k then 1 else 0)) H) ∨ ∃ a n, xs = [.str a] ∧ PySem.intText? a = some n ∧ a.length ≤ 640 ∧ Q (.int n) H) aIntX := by
  intro Z H vs ds k Q zl h2 h ret
  unfold aIntX at h
  split at h
  · obtain ⟨n, e, hl, hk⟩ := h
    obtain ⟨x, rfl, h1⟩ := all2_1 h2
    have e1 : x = .str _ := PDu.str_i h1
    exact .inr ⟨_, n, by rw [e1], e, hl, ret _ _ Z H [] hk (Ext.refl zl) (.p (.int _))⟩
  · exact .inl (ok_int Z H vs ds k Q zl h2 h ret)
def aStrX : Aop
  | [.str x], k => k (.p (.str x))
  | ds, k => aStrI ds k
theorem call_strX {X : Cx} : CallR X (.type "str") (fun xs H Q => (∃ i, xs = [.int i] ∧ i.natAbs.log2 < 1920 ∧ Q (.str (toString i)) H) ∨ ∃ a, xs = [.str a] ∧ Q (.str a) H) := CallR_or call_str_int SkE.call_str_str
theorem ok_strX {K : PySem.W.Frag} : POu K (fun xs H Q => (∃ i, xs = [.int i] ∧ i.natAbs.log2 < 1920 ∧ Q (.str (toString i)) H) ∨ ∃ a, xs = [.str a] ∧ Q (.str a) H) aStrX := by
  intro Z H vs ds k Q zl h2 h ret
  unfold aStrX at h
  split at h
  · obtain ⟨x, rfl, h1⟩ := all2_1 h2
    have e1 : x = .str _ := PDu.str_i h1
    exact .inr ⟨_, by rw [e1], ret _ _ Z H [] h (Ext.refl zl) (.p (.str _))⟩
  · exact .inl (ok_strI Z H vs ds k Q zl h2 h ret)
section
variable {K : PySem.W.Frag} {Z : ZS} {H : Hp} {σ : L2.St} {g : Gm} {w : Ow} {r : R} {v : V} {rs : List R} {vs : List V} {f : List Addr} {ds es : List D} {a b : Addr} {xs ys : List V} {C : List Addr}
/-- the list that is read, where it stands -/
theorem rd_list (S : SO K Z H σ g w) (hh : RRs K Z H σ g w (r :: rs) (v :: vs) f) (dw : ∀ a ∈ f, ∀ i, a ∉ w i) (e : datu r = some (.list ds)) :
    ∃ (a : Addr) (xs : List V) (C : List Addr), v = .ref a ∧ PDs K Z H xs ds ∧ (∀ Z' H', Kp Z Z' H H' → (∀ c ∈ C, H' c = H c) → SqL K H' a xs) ∧ ∀ c ∈ C, H c ≠ none ∧ ∀ j, c ∈ w j → j ∈ slots1 r := by
  have owned : ∀ {o : O} {sl : List Nat} {fo : List Addr}, RO K Z H o v fo → (∀ a ∈ fo, ∀ j, a ∈ w j → j ∈ sl) → sh o = some (.list ds) →
      ∃ (a : Addr) (xs : List V) (C : List Addr), v = .ref a ∧ PDs K Z H xs ds ∧ (∀ Z' H', Kp Z Z' H H' → (∀ c ∈ C, H' c = H c) → SqL K H' a xs) ∧ ∀ c ∈ C, H c ≠ none ∧ ∀ j, c ∈ w j → j ∈ sl := fun {o sl fo} ro own q' => by
    cases ro with
    | p h =>
      cases q'
      cases h with
      | lst z h r => exact ⟨_, _, [], rfl, r, fun Z' H' k _ => .of ((k _ z).2.trans h), fun _ m => absurd m (by simp)⟩
    | @ls a xs ds h r =>
      cases q'
      exact ⟨_, _, [a], rfl, r, fun Z' H' k c => .of ((c a (by simp)).trans h), fun b m => by
        rw [List.mem_singleton.mp m]
        exact ⟨by rw [h]; simp, own a (by simp)⟩⟩
    | dc _ _ _ => cases q'
    | lo _ _ => cases q'
    | dco _ _ _ => cases q'
    | ins _ _ _ => cases q'
    | val _ => cases q'
    | exc _ => cases q'
    | fl _ => cases q'
  cases hh with
  | p h t =>
    cases e
    cases h with
    | lst z h r => exact ⟨_, _, [], rfl, r, fun Z' H' k _ => .of ((k _ z).2.trans h), fun _ m => absurd m (by simp)⟩
  | sl e1 e2 ro t =>
    rename_i i o
    by_cases hp : (∃ ns, o = .fl ns)
    · obtain ⟨ns, rfl⟩ := hp
      cases e
      generalize w i = fw at ro
      cases ro with
      | @fl a _ c =>
        rcases c with ⟨z, r⟩ | c
        · exact ⟨a, _, [], rfl, ints_pd _, fun Z' H' k _ => .inl (Rd.kp r (k a z).2), fun _ m => absurd m (by simp)⟩
        · exact ⟨a, _, [], rfl, ints_pd _, fun Z' H' _ _ => c H', fun _ m => absurd m (by simp)⟩
    · refine owned (sl := [i]) ro (fun a m j mj => by rw [S.dj j i a mj m]; simp) ?_
      cases o with
      | fl ns => exact absurd ⟨ns, rfl⟩ hp
      | _ => exact e
  | vw h t =>
    rename_i i o pl
    obtain ⟨rv, pre, fo, post, e1, e2, ro, _, _⟩ := h
    exact owned (sl := [i]) ro (fun a m j mj => by rw [S.dj j i a mj (by rw [e2]; simp [m])]; simp) e
  | ow h t => exact owned (sl := []) h (fun a m j mj => absurd mj (dw a (by simp [m]) j)) e
theorem rd_tail (h : RRs K Z H σ g w (r :: rs) (v :: vs) f) : ∃ f', RRs K Z H σ g w rs vs f' ∧ ∀ a ∈ f', a ∈ f := by
  cases h with
  | p h t => exact ⟨_, t, fun _ m => m⟩
  | sl _ _ _ t => exact ⟨_, t, fun _ m => m⟩
  | vw _ t => exact ⟨_, t, fun _ m => m⟩
  | ow h t => exact ⟨_, t, fun _ m => by simp [m]⟩
theorem rd_tup (h : PDu K Z H v (.tuple ds)) : ∃ (a : Addr) (xs : List V), v = .ref a ∧ PDs K Z H xs ds ∧ ∀ Z' H', Kp Z Z' H H' → SqT K H' a xs := by
  have h : PD K Z H v (.tuple ds) := h
  cases h with
  | tup c r => exact ⟨_, _, rfl, r, fun Z' H' k => (c.kp k).sq⟩
def zipD (ds es : List D) : List D := (ds.zip es).map fun q => .tuple [q.1, q.2]
theorem zipD_at {i : Nat} {d : D} (h : (zipD ds es)[i]? = some d) : ∃ x y, ds[i]? = some x ∧ es[i]? = some y ∧ d = .tuple [x, y] := by
  unfold zipD at h
  rw [List.getElem?_map] at h
  obtain ⟨⟨x, y⟩, e1, e2⟩ := Option.map_eq_some_iff.mp h
  rw [List.getElem?_zip_eq_some] at e1
  exact ⟨x, y, e1.1, e1.2, e2.symm⟩
theorem zipD_len : (zipD ds es).length = min ds.length es.length := by unfold zipD; rw [List.length_map, List.length_zip]
theorem ItD.zL (s1 : ∀ Z' H', Kp Z Z' H H' → (∀ c ∈ C, H' c = H c) → SqL K H' a xs) (s2 : ∀ Z' H', Kp Z Z' H H' → (∀ c ∈ C, H' c = H c) → SqL K H' b ys) (r1 : PDs K Z H xs ds) (r2 : PDs K Z H ys es) : ItD K Z H C (Itz K a b) (zipD ds es) where
  go := fun Z' H' i k c hi => by
    rw [zipD_len] at hi
    exact ⟨xs, ys, xs[i]'(by rw [r1.length]; omega), ys[i]'(by rw [r2.length]; omega), s1 Z' H' k c, s2 Z' H' k c, by simp, by simp⟩
  yl := fun Z' H' i d x H'' k c zl hd ⟨T, y, z, e1, hT, e2, h1, h2⟩ => by
    subst e1 e2
    obtain ⟨p, q, ep, eq, rfl⟩ := zipD_at hd
    obtain ⟨u1, e1, d1⟩ := r1.get ep
    obtain ⟨u2, e2, d2⟩ := r2.get eq
    have h1 := (h1 xs (s1 Z' _ k c)).symm.trans e1
    have h2 := (h2 ys (s2 Z' _ k c)).symm.trans e2
    cases h1
    cases h2
    exact ⟨_, Ext.new zl hT, .tup (.inl ⟨.inr rfl, .inl upd_same⟩) (.cons ((d1.kp k).kp (Kp.new zl hT)) (.cons ((d2.kp k).kp (Kp.new zl hT)) .nil))⟩
  st := fun Z' H' k c => ⟨xs, ys, s1 Z' H' k c, s2 Z' H' k c, by rw [zipD_len, r1.length, r2.length]; omega⟩
theorem ItD.zT (s1 : ∀ Z' H', Kp Z Z' H H' → SqT K H' a xs) (s2 : ∀ Z' H', Kp Z Z' H H' → SqT K H' b ys) (r1 : PDs K Z H xs ds) (r2 : PDs K Z H ys es) : ItD K Z H C (RZ.ItzT K a b) (zipD ds es) where
  go := fun Z' H' i k c hi => by
    rw [zipD_len] at hi
    exact ⟨xs, ys, xs[i]'(by rw [r1.length]; omega), ys[i]'(by rw [r2.length]; omega), s1 Z' H' k, s2 Z' H' k, by simp, by simp⟩
  yl := fun Z' H' i d x H'' k c zl hd ⟨T, y, z, e1, hT, e2, h1, h2⟩ => by
    subst e1 e2
    obtain ⟨p, q, ep, eq, rfl⟩ := zipD_at hd
    obtain ⟨u1, e1, d1⟩ := r1.get ep
    obtain ⟨u2, e2, d2⟩ := r2.get eq
    have h1 := (h1 xs (s1 Z' _ k)).symm.trans e1
    have h2 := (h2 ys (s2 Z' _ k)).symm.trans e2
    cases h1
    cases h2
    exact ⟨_, Ext.new zl hT, .tup (.inl ⟨.inr rfl, .inl upd_same⟩) (.cons ((d1.kp k).kp (Kp.new zl hT)) (.cons ((d2.kp k).kp (Kp.new zl hT)) .nil))⟩
  st := fun Z' H' k c => ⟨xs, ys, s1 Z' H' k, s2 Z' H' k, by rw [zipD_len, r1.length, r2.length]; omega⟩
end
def rsl : List R → List Nat
  | [] => []
  | r :: rs => slots1 r ++ rsl rs
def rZip (ta : AA) : AI := fun g Q E => ta g (fun rs g1 => match datL datu rs with
  | some [.list ds, .list es] => Q (zipD ds es) (rsl rs) g1
  | some [.tuple ds, .tuple es] => Q (zipD ds es) (rsl rs) g1
  | _ => False) E
section
variable {X : Cx} {W : WX} {T : List Nat} {e e2 : Expr} {te : AE} {ta : AA} {elts : List Expr} {kk : Nat} {tpos p pos p2 p3 p4 : Pos}
theorem ji_zip (hg : Gl X "zip") (hm : X.mg "zip" = none) (ha : JA X W T [e, e2] ta) (hs : starEach [e, e2] X.env = (false, eval e X.env) :: starEach [e2] X.env := by rfl) (hpl : (backTo pos (starEach [e2] X.env)).any (·.1) = false := by rfl) :
    JI X W T (.Tuple elts kk tpos) (.Call (.Name "zip" p) [e, e2] [] pos) (rZip ta) := by
  refine ⟨PIi (RZ.pi_zipA hg hm ha.pa hs hpl) fun σ H R ⟨Z, g, w, q, E, S, h, ok, ex⟩ => ⟨Z, g, w, _, E, S, h, fun rs vs Z1 H1 g1 w1 f q1 O1 => ?_, ex⟩⟩
  show ∃ a b xs ys, vs = [.ref a, .ref b] ∧ ((SqL X.K H1 a xs ∧ SqL X.K H1 b ys ∧ R (Itz X.K a b) H1) ∨ (SqT X.K H1 a xs ∧ SqT X.K H1 b ys ∧ R (RZ.ItzT X.K a b) H1))
  split at q1
  · rename_i ds es ed
    obtain ⟨x, y, rfl, _, _⟩ := all2_2 (O1.rr.u ed)
    cases rs with
    | nil => cases ed
    | cons r1 rs =>
    obtain ⟨d1, t1, e1, ed, et⟩ := datL_cons ed
    cases et
    cases rs with
    | nil => cases ed
    | cons r2 rs =>
    obtain ⟨d2, t2, e2', ed, et⟩ := datL_cons ed
    cases et
    cases rs with
    | cons r3 rs =>
      obtain ⟨_, _, _, _, et⟩ := datL_cons ed
      cases et
    | nil =>
    obtain ⟨a, xs, C1, rfl, rx, s1, c1⟩ := rd_list O1.so O1.rr O1.dw e1
    obtain ⟨f', ht, hf⟩ := rd_tail O1.rr
    obtain ⟨b, ys, C2, rfl, ry, s2, c2⟩ := rd_list O1.so ht (fun a m => O1.dw a (hf a m)) e2'
    have k0 : Kp Z1 Z1 H1 H1 := .refl
    refine ⟨a, b, xs, ys, rfl, .inl ⟨s1 Z1 H1 k0 fun _ _ => rfl, s2 Z1 H1 k0 fun _ _ => rfl, ok _ _ _ _ _ _ _ _ _ _ (C1 ++ C2) q1 O1 (.zL (fun Z' H' k c => s1 Z' H' k fun a m => c a (by simp [m])) (fun Z' H' k c => s2 Z' H' k fun a m => c a (by simp [m])) rx ry) fun c m => ?_⟩⟩
    rcases List.mem_append.mp m with m | m
    · exact ⟨(c1 c m).1, fun j mj => by have := (c1 c m).2 j mj; simp [rsl, this]⟩
    · exact ⟨(c2 c m).1, fun j mj => by have := (c2 c m).2 j mj; simp [rsl, this]⟩
  · rename_i ds es ed
    obtain ⟨x, y, rfl, h1, h2⟩ := all2_2 (O1.rr.u ed)
    obtain ⟨a, xs, rfl, rx, s1⟩ := rd_tup h1
    obtain ⟨b, ys, rfl, ry, s2⟩ := rd_tup h2
    exact ⟨a, b, xs, ys, rfl, .inr ⟨s1 Z1 H1 .refl, s2 Z1 H1 .refl, ok _ _ _ _ _ _ _ _ _ _ [] q1 O1 (.zT s1 s2 rx ry) fun c m => absurd m (by simp)⟩⟩
  · exact q1.elim
def rRev (te : AE) : AE := fun g Q E => te g (fun r g1 => match datu r with
  | some (.list ds) => Q (.ow (.ls ds.reverse)) g1
  | _ => False) E
theorem je_rev {k : Nat} (he : JE X W T e te) : JE X W T (.Subscript e (.Slice none none (some (.UnaryOp .USub (.Constant (.int 1) k p2) p3)) p4) pos) (rRev te) := by
  refine ⟨PEi (pe_revL he.pe) fun σ H Q ⟨Z, g, w, q, E, S, h, ok, ex⟩ => ⟨Z, g, w, _, E, S, h, fun r v Z1 H1 g1 w1 f q1 O1 => ?_, ex⟩⟩
  split at q1
  · rename_i ds ed
    have hv := O1.rr.u (ds := [.list ds]) (by simp only [datL]; rw [ed])
    cases hv with
    | cons hv _ =>
    obtain ⟨a, xs, rfl, hx, rx⟩ := hv
    exact ⟨a, xs, rfl, hx, fun p hp => ok _ _ _ _ _ _ _ q1 (O1.op (Ext.own O1.so.zal hp) (RR1.ow (.ls upd_same (rx.rev.kp (Kp.own O1.so.zal hp)))))⟩
  · exact q1.elim
end
section
variable {te : AE} {ta : AA} {k : R → Prop} {x : Str} {i : Int} {b : Bool} {r : R} {rs : List R} {E : EX} {g0 : Gm} {o0 : Option O}
theorem x_rRev {Q : R → Gm → Prop} : rRev te (o0 :: g0) Q E = te (o0 :: g0) (fun r g1 => match datu r with
  | some (.list ds) => Q (.ow (.ls ds.reverse)) g1
  | _ => False) E := rfl
theorem x_rZip {Q : List D → List Nat → Gm → Prop} : rZip ta (o0 :: g0) Q E = ta (o0 :: g0) (fun rs g1 => match datL datu rs with
  | some [.list ds, .list es] => Q (zipD ds es) (rsl rs) g1
  | some [.tuple ds, .tuple es] => Q (zipD ds es) (rsl rs) g1
  | _ => False) E := rfl
theorem x_rsl0 : rsl [] = [] := rfl
theorem x_rsl1 : rsl (r :: rs) = slots1 r ++ rsl rs := rfl
theorem x_intX_s : aIntX [.str x] k = ∃ n, PySem.intText? x = some n ∧ x.length ≤ 640 ∧ k (.p (.int n)) := rfl
theorem x_intX_i : aIntX [.int i] k = k (.p (.int i)) := rfl
theorem x_strX_s : aStrX [.str x] k = k (.p (.str x)) := rfl
theorem x_strX_i : aStrX [.int i] k = (i.natAbs.log2 < 1920 ∧ k (.p (.str (toString i)))) := rfl
theorem x_intX_b : aIntX [.bool b] k = k (.p (.int (if b then 1 else 0))) := rfl
end
end VL

namespace VL
open PySem PySem.Spec PyProof.Rows L2

/-! ### 71. Terms as texts, and texts read to terms -/
def mkS (l : List Nat) : Str := ⟨l.toArray⟩
theorem mkS_l (l : List Nat) : (mkS l).cps.toList = l := by simp [mkS]
theorem mkS_of (x : Str) : mkS x.cps.toList = x := str_ext (by rw [mkS_l])
theorem mkS_inj {a b : List Nat} (h : mkS a = mkS b) : a = b := by rw [← mkS_l a, h, mkS_l]
theorem mkS_len (l : List Nat) : (mkS l).length = l.length := by rw [len_list, mkS_l]
theorem eq_mkS {x : Str} {l : List Nat} : x = mkS l ↔ x.cps.toList = l := ⟨fun h => by rw [h, mkS_l], fun h => str_ext (by rw [mkS_l, h])⟩
/-- the text of a term -/
def Tr.txt : Tr → Str
  | .num i => toString i
  | .cel s => s
  | .inn i => "in" ++ Str.ofString (toString i)
  | .op c a b => "(" ++ sg c ++ " " ++ a.txt ++ " " ++ b.txt ++ ")"
theorem join3 (x y z : Str) : "(" ++ Txt.join " " [x, y, z] ++ ")" = "(" ++ x ++ " " ++ y ++ " " ++ z ++ (")" : Str) := by
  rw [TL.join_eq]
  show "(" ++ (x ++ " " ++ (y ++ " " ++ z)) ++ (")" : Str) = _
  refine str_ext ?_
  simp only [app_list, List.append_assoc]
/-! names, numbers, leaves -/
def isNameL (l : List Nat) : Bool := decide (1 ≤ l.length) && decide (l.length ≤ 6) && !inKept (mkS l) && l.all fun c => decide (97 ≤ c ∧ c ≤ 122)
def isDig (c : Nat) : Bool := decide (48 ≤ c ∧ c ≤ 57)
def isNumL (l : List Nat) : Bool := decide (0 < l.length ∧ l.length ≤ 6) && l.all isDig && (decide (l.length = 1) || !decide (l.head? = some 48))
def leafL (l : List Nat) : Option Tr :=
  if mkS l = "in0" then some (.inn 0) else if mkS l = "in1" then some (.inn 1) else if mkS l = "in2" then some (.inn 2)
  else if isNumL l = true then some (.num ((NumText.digitsVal l : Nat) : Int)) else if isNameL l = true then some (.cel (mkS l)) else none
def sepB (c : Nat) : Bool := decide (c ∈ [32, 40, 41])
def wordL (l : List Nat) : List Nat := l.takeWhile fun c => !sepB c
/-- what stands at the begin of a list of signs, and the rest -/
def rdT : Nat → List Nat → Option (Tr × List Nat)
  | 0, _ => none
  | n + 1, l => if l.head? = some 40 then
      match l.tail with
      | c :: 32 :: l1 => if c ∈ sixL then match rdT n l1 with
          | some (a, 32 :: l2) => match rdT n l2 with
            | some (b, 41 :: l3) => some (.op c a b, l3)
            | _ => none
          | _ => none
        else none
      | _ => none
    else (leafL (wordL l)).map fun t => (t, l.drop (wordL l).length)
theorem rdT_leaf {n : Nat} {l : List Nat} (h : l.head? ≠ some 40) : rdT (n + 1) l = (leafL (wordL l)).map fun t => (t, l.drop (wordL l).length) := by
  rw [rdT, if_neg h]
theorem rdT_op {n : Nat} {l : List Nat} : rdT (n + 1) (40 :: l) = match l with
      | c :: 32 :: l1 => if c ∈ sixL then match rdT n l1 with
          | some (a, 32 :: l2) => match rdT n l2 with
            | some (b, 41 :: l3) => some (.op c a b, l3)
            | _ => none
          | _ => none
        else none
      | _ => none := by
  rw [rdT]
  simp only [List.head?_cons, ↓reduceIte, List.tail_cons]
def rdW (n : Nat) (l : List Nat) : Option Tr := match rdT n l with
  | some (t, []) => some t
  | _ => none
/-- what is read is no longer than what stood there -/
theorem rdT_suf : ∀ (n : Nat) (l : List Nat) {t : Tr} {l' : List Nat}, rdT n l = some (t, l') → ∃ p, l = p ++ l'
  | 0, l, t, l', h => by simp [rdT] at h
  | n + 1, l, t, l', h => by
    by_cases hh : l.head? = some 40
    · cases l with
      | nil => cases hh
      | cons c0 l =>
        cases hh
        rw [rdT_op] at h
        split at h
        · rename_i c l1
          split at h
          · split at h
            · rename_i e1
              obtain ⟨p1, q1⟩ := rdT_suf n _ e1
              split at h
              · rename_i e2
                obtain ⟨p2, q2⟩ := rdT_suf n _ e2
                cases h
                rw [q1, q2]
                exact ⟨40 :: c :: 32 :: (p1 ++ 32 :: (p2 ++ [41])), by simp⟩
              · cases h
            · cases h
          · cases h
        · cases h
    · rw [rdT_leaf hh] at h
      obtain ⟨a, e1, e2⟩ := Option.map_eq_some_iff.mp h
      cases e2
      exact ⟨l.take (wordL l).length, (List.take_append_drop _ _).symm⟩
/-! the text of a term is read to it -/
/-- names that are no kept words -/
structure Nx (s : Str) : Prop where
  pos : 1 ≤ s.length
  le : s.length ≤ 6
  low : isLow s
  kept : s ∉ keptL
theorem Nm.x {s : Str} (h : Nm s) : Nx s := ⟨h.pos, h.le, h.low, h.kept⟩
theorem Nx.b {s : Str} (h : Nx s) : isNameL s.cps.toList = true := by
  unfold isNameL
  have h1 : inKept (mkS s.cps.toList) = false := by
    rw [mkS_of, Bool.eq_false_iff]
    exact fun z => h.kept (inKept_iff.mp z)
  have l1 := h.pos
  have l2 := h.le
  rw [len_list] at l1 l2
  rw [h1, decide_eq_true l1, decide_eq_true l2, List.all_eq_true.mpr fun c m => decide_eq_true (h.low c m)]
  rfl
theorem takeW {p : Nat → Bool} : ∀ {w l : List Nat}, (∀ c ∈ w, p c = true) → (∀ c, l.head? = some c → p c = false) → (w ++ l).takeWhile p = w
  | [], l, _, h => by
    cases l with
    | nil => rfl
    | cons c l => rw [List.nil_append, List.takeWhile_cons, h c rfl]; rfl
  | c :: w, l, h1, h2 => by
    rw [List.cons_append, List.takeWhile_cons, h1 c (List.mem_cons_self ..)]
    simp only [↓reduceIte]
    rw [takeW (fun d m => h1 d (List.mem_cons_of_mem _ m)) h2]
theorem sep_low {c : Nat} (h : 42 ≤ c) : (!sepB c) = true := by
  unfold sepB
  simp only [List.mem_cons, List.not_mem_nil, or_false]
  rw [decide_eq_false (by omega)]
  rfl
/-- behind a term -/
def endB (l : List Nat) : Prop := ∀ c, l.head? = some c → sepB c = true
theorem word_of {w l : List Nat} (h : ∀ c ∈ w, 42 ≤ c) (e : endB l) : wordL (w ++ l) = w :=
  takeW (fun c m => sep_low (h c m)) fun c hc => by rw [e c hc]; rfl
theorem in_txt {i : Int} (h0 : 0 ≤ i) (h : i ≤ 2) : ("in" ++ Str.ofString (toString i) : Str) = if i = 0 then "in0" else if i = 1 then "in1" else "in2" := by
  have : i = 0 ∨ i = 1 ∨ i = 2 := by omega
  rcases this with rfl | rfl | rfl <;> decide +kernel
theorem num_txt {i : Int} (h0 : 0 ≤ i) : (Str.ofString (toString i)).cps.toList = TL.numL i.toNat := by
  have e : i = ((i.toNat : Nat) : Int) := by omega
  rw [e]
  exact TL.tl_num _
theorem numL_head : ∀ n : Nat, 10 ≤ n → ∃ c r, TL.numL n = c :: r ∧ c ≠ 48 := by
  intro n
  induction n using Nat.strongRecOn with
  | _ n ih =>
    intro h
    rw [TL.numL_step h]
    by_cases h2 : n / 10 < 10
    · rw [TL.numL_lt h2]
      exact ⟨48 + n / 10, [48 + n % 10], rfl, by omega⟩
    · obtain ⟨c, r, e, hc⟩ := ih (n / 10) (by omega) (by omega)
      rw [e]
      exact ⟨c, r ++ [48 + n % 10], rfl, hc⟩
theorem isNum_num {n : Nat} (h : n ≤ 999999) : isNumL (TL.numL n) = true := by
  unfold isNumL
  have l1 := TL.numL_len (n := n) (k := 6) (by decide) (by omega)
  have l0 : 0 < (TL.numL n).length := by
    have := TL.numL_ne n
    exact List.length_pos_iff.mpr this
  have d : (TL.numL n).all isDig = true := List.all_eq_true.mpr fun c m => decide_eq_true (TL.numL_digits n c m)
  rw [decide_eq_true ⟨l0, l1⟩, d]
  by_cases c : n < 10
  · rw [TL.numL_lt c]
    rfl
  · obtain ⟨c, r, e, hc⟩ := numL_head n (by omega)
    rw [e]
    simp [hc]
theorem name_not_in {s : Str} (h : isLow s) : s ≠ "in0" ∧ s ≠ "in1" ∧ s ≠ "in2" := by
  refine ⟨?_, ?_, ?_⟩
  · rintro rfl
    have := h 48 (by decide +kernel)
    omega
  · rintro rfl
    have := h 49 (by decide +kernel)
    omega
  · rintro rfl
    have := h 50 (by decide +kernel)
    omega
theorem leaf_name {s : Str} (h : Nx s) : leafL s.cps.toList = some (.cel s) := by
  obtain ⟨n0, n1, n2⟩ := name_not_in h.low
  unfold leafL
  rw [mkS_of, if_neg n0, if_neg n1, if_neg n2, if_neg, if_pos h.b]
  intro z
  unfold isNumL at z
  rw [Bool.and_eq_true, Bool.and_eq_true] at z
  have l1 := h.pos
  rw [len_list] at l1
  cases e : s.cps.toList with
  | nil => rw [e] at l1; simp at l1
  | cons c r =>
    have hd := List.all_eq_true.mp z.1.2 c (by rw [e]; simp)
    unfold isDig at hd
    have := h.low c (by rw [e]; simp)
    simp at hd
    omega
theorem leaf_num {n : Nat} (h : n ≤ 999999) : leafL (TL.numL n) = some (.num (n : Int)) := by
  have ne : ∀ x : Str, x.cps.toList.head? = some 105 → mkS (TL.numL n) ≠ x := by
    intro x hx e
    rw [← e, mkS_l] at hx
    have := TL.numL_digits n 105 (List.mem_of_mem_head? hx)
    omega
  unfold leafL
  rw [if_neg (ne _ (by decide +kernel)), if_neg (ne _ (by decide +kernel)), if_neg (ne _ (by decide +kernel)), if_pos (isNum_num h), TL.numL_val]
theorem low_42 {s : Str} (h : isLow s) : ∀ c ∈ s.cps.toList, 42 ≤ c := fun c m => by have := h c m; omega
theorem head_42 {w l : List Nat} (h : ∀ c ∈ w, 42 ≤ c) (hw : w ≠ []) : (w ++ l).head? ≠ some 40 := by
  cases w with
  | nil => exact absurd rfl hw
  | cons c w =>
    intro e
    have e : c = 40 := by simpa using e
    have := h c (List.mem_cons_self ..)
    omega
theorem drop_pre {w l : List Nat} : (w ++ l).drop w.length = l := by simp
theorem rd_txt {S : Str → Prop} (hS : ∀ s, S s → Nx s) : ∀ (t : Tr) (n : Nat) (l : List Nat), t.ok S → t.down < n → endB l → rdT n (t.txt.cps.toList ++ l) = some (t, l)
  | .num i, 0, _, _, h, _ => absurd h (Nat.not_lt_zero _)
  | .cel i, 0, _, _, h, _ => absurd h (Nat.not_lt_zero _)
  | .inn i, 0, _, _, h, _ => absurd h (Nat.not_lt_zero _)
  | .op _ _ _, 0, _, _, h, _ => absurd h (Nat.not_lt_zero _)
  | .num i, n + 1, l, ⟨h0, h1⟩, _, e => by
    have q : (Tr.num i).txt.cps.toList = TL.numL i.toNat := num_txt h0
    have g : ∀ c ∈ TL.numL i.toNat, 42 ≤ c := fun c m => by have := TL.numL_digits _ c m; omega
    rw [q, rdT_leaf (head_42 g (TL.numL_ne _)), word_of g e, leaf_num (by omega), drop_pre]
    show some (Tr.num ((i.toNat : Nat) : Int), l) = _
    rw [show ((i.toNat : Nat) : Int) = i by omega]
  | .cel s, n + 1, l, h, _, e => by
    have q : (Tr.cel s).txt = s := rfl
    have N := hS s h
    have ne : s.cps.toList ≠ [] := fun z => by have := N.pos; rw [len_list, z] at this; simp at this
    rw [q, rdT_leaf (head_42 (low_42 N.low) ne), word_of (low_42 N.low) e, leaf_name N, drop_pre]
    rfl
  | .inn i, n + 1, l, ⟨h0, h1⟩, _, e => by
    have q : (Tr.inn i).txt = if i = 0 then "in0" else if i = 1 then "in1" else "in2" := in_txt h0 h1
    have c3 : i = 0 ∨ i = 1 ∨ i = 2 := by omega
    rw [q]
    rcases c3 with rfl | rfl | rfl
    · have g : (Str.ofString "in0").cps.toList = [105, 110, 48] := by decide +kernel
      simp only [↓reduceIte]
      rw [g, rdT_leaf (head_42 (by decide) (by decide)), word_of (by decide) e, drop_pre]
      have z : leafL [105, 110, 48] = some (.inn 0) := by unfold leafL; rw [if_pos (by decide +kernel)]
      rw [z]; rfl
    · have g : (Str.ofString "in1").cps.toList = [105, 110, 49] := by decide +kernel
      simp only [Int.reduceEq, ↓reduceIte]
      rw [g, rdT_leaf (head_42 (by decide) (by decide)), word_of (by decide) e, drop_pre]
      have z : leafL [105, 110, 49] = some (.inn 1) := by unfold leafL; rw [if_neg (by decide +kernel), if_pos (by decide +kernel)]
      rw [z]; rfl
    · have g : (Str.ofString "in2").cps.toList = [105, 110, 50] := by decide +kernel
      simp only [Int.reduceEq, ↓reduceIte]
      rw [g, rdT_leaf (head_42 (by decide) (by decide)), word_of (by decide) e, drop_pre]
      have z : leafL [105, 110, 50] = some (.inn 2) := by unfold leafL; rw [if_neg (by decide +kernel), if_neg (by decide +kernel), if_pos (by decide +kernel)]
      rw [z]; rfl
  | .op c a b, n + 1, l, ⟨h1, h2, h3⟩, hd, e => by
    have da : a.down < n := by simp only [Tr.down] at hd; omega
    have db : b.down < n := by simp only [Tr.down] at hd; omega
    have q : (Tr.op c a b).txt.cps.toList ++ l = 40 :: c :: 32 :: (a.txt.cps.toList ++ 32 :: (b.txt.cps.toList ++ 41 :: l)) := by
      have z1 : (Str.ofString "(").cps.toList = [40] := by decide +kernel
      have z2 : (Str.ofString " ").cps.toList = [32] := by decide +kernel
      have z3 : (Str.ofString ")").cps.toList = [41] := by decide +kernel
      have z4 : (sg c).cps.toList = [c] := rfl
      show (("(" ++ sg c ++ " " ++ a.txt ++ " " ++ b.txt ++ ")" : Str)).cps.toList ++ l = _
      simp only [app_list, z1, z2, z3, z4, List.append_assoc, List.cons_append, List.nil_append]
    rw [q]
    have r1 := rd_txt hS a n (32 :: (b.txt.cps.toList ++ 41 :: l)) h2 da (fun d hd => by cases hd; decide)
    have r2 := rd_txt hS b n (41 :: l) h3 db (fun d hd => by cases hd; decide)
    rw [rdT_op]
    simp only [h1, ↓reduceIte]
    rw [r1]
    simp only []
    rw [r2]
    rfl
theorem rdW_txt {S : Str → Prop} (hS : ∀ s, S s → Nx s) {t : Tr} {n : Nat} (h : t.ok S) (hd : t.down < n) : rdW n t.txt.cps.toList = some t := by
  have := rd_txt hS t n [] h hd (fun c hc => by cases hc)
  rw [List.append_nil] at this
  unfold rdW
  rw [this]
/-! how long a term's text is, how many brackets stand in it -/
theorem txt_len {S : Str → Prop} (hS : ∀ s, S s → Nx s) : ∀ {t : Tr}, t.ok S → t.txt.length ≤ 12 * t.parts.length
  | .num i, ⟨h0, h1⟩ => by
    have l1 := TL.numL_len (n := i.toNat) (k := 6) (by decide) (by omega)
    show (Str.ofString (toString i)).length ≤ _
    rw [len_list, num_txt h0]
    simp only [Tr.parts, List.length_cons, List.length_nil]
    omega
  | .cel s, h => by
    have := (hS s h).le
    show s.length ≤ _
    simp only [Tr.parts, List.length_cons, List.length_nil]
    omega
  | .inn i, ⟨h0, h1⟩ => by
    have q : (Tr.inn i).txt = if i = 0 then "in0" else if i = 1 then "in1" else "in2" := in_txt h0 h1
    have c3 : i = 0 ∨ i = 1 ∨ i = 2 := by omega
    rw [q]
    rcases c3 with rfl | rfl | rfl <;> decide +kernel
  | .op c a b, ⟨h1, h2, h3⟩ => by
    have l1 := txt_len hS h2
    have l2 := txt_len hS h3
    have z1 : (Str.ofString "(").length = 1 := by decide +kernel
    have z2 : (Str.ofString " ").length = 1 := by decide +kernel
    have z3 : (Str.ofString ")").length = 1 := by decide +kernel
    have z4 : (sg c).length = 1 := rfl
    show (("(" ++ sg c ++ " " ++ a.txt ++ " " ++ b.txt ++ ")" : Str)).length ≤ _
    simp only [app_len, z1, z2, z3, z4]
    simp only [Tr.parts, List.length_cons, List.length_append]
    omega
theorem cnt0 {w : List Nat} (h : ∀ c ∈ w, 42 ≤ c) : w.count 40 = 0 := by
  refine List.count_eq_zero.mpr fun m => ?_
  have := h 40 m
  omega
theorem txt_cnt {S : Str → Prop} (hS : ∀ s, S s → Nx s) : ∀ {t : Tr}, t.ok S → t.txt.cps.toList.count 40 < t.parts.length
  | .num i, ⟨h0, h1⟩ => by
    have q : (Tr.num i).txt.cps.toList = TL.numL i.toNat := num_txt h0
    rw [q, cnt0 fun c m => by have := TL.numL_digits _ c m; omega]
    simp [Tr.parts]
  | .cel s, h => by
    have q : (Tr.cel s).txt = s := rfl
    rw [q, cnt0 (low_42 (hS s h).low)]
    simp [Tr.parts]
  | .inn i, ⟨h0, h1⟩ => by
    have q : (Tr.inn i).txt = if i = 0 then "in0" else if i = 1 then "in1" else "in2" := in_txt h0 h1
    have c3 : i = 0 ∨ i = 1 ∨ i = 2 := by omega
    rw [q]
    rcases c3 with rfl | rfl | rfl <;> decide +kernel
  | .op c a b, ⟨h1, h2, h3⟩ => by
    have l1 := txt_cnt hS h2
    have l2 := txt_cnt hS h3
    have z1 : (Str.ofString "(").cps.toList = [40] := by decide +kernel
    have z2 : (Str.ofString " ").cps.toList = [32] := by decide +kernel
    have z3 : (Str.ofString ")").cps.toList = [41] := by decide +kernel
    have z4 : (sg c).cps.toList = [c] := rfl
    have z5 : c ≠ 40 := by rintro rfl; revert h1; decide
    show (("(" ++ sg c ++ " " ++ a.txt ++ " " ++ b.txt ++ ")" : Str)).cps.toList.count 40 < _
    simp only [app_list, z1, z2, z3, z4, List.count_append, List.count_singleton]
    simp only [Tr.parts, List.length_cons, List.length_append]
    have z6 : (c == 40) = false := by simp [z5]
    simp only [z6, Bool.false_eq_true, ↓reduceIte, Nat.reduceBEq]
    omega
end VL

namespace VL
open PySem PySem.Spec PyProof.Rows L2

/-! ### 72. The reader's promises -/
def sp_need_text (er : Str → Addr) : ASp := fun os k kx => ∃ (b : Bool) (i : Int), os = [.p (.bool b), .p (.int i)] ∧ (b = true → k (.p .none) [.p (.bool b), .p (.int i)]) ∧ (b = false → kx (er "BadText") [("at", .int i)] [.p (.bool b), .p (.int i)])
def sp_is_name : ASp := fun os k kx => ∃ (x : Str), os = [.p (.str x)] ∧ x.length ≤ 100000 ∧ k (.p (.bool (isNameL x.cps.toList))) [.p (.str x)]
def sp_is_number : ASp := fun os k kx => ∃ (x : Str), os = [.p (.str x)] ∧ x.length ≤ 100000 ∧ k (.p (.bool (isNumL x.cps.toList))) [.p (.str x)]
def sp_leaf_of (er : Str → Addr) : ASp := fun os k kx => ∃ (x : Str) (i : Int) (l : List Nat), os = [.p (.str x), .p (.int i)] ∧ x.length ≤ 100000 ∧ x.cps.toList = l ∧
  (∀ t, leafL l = some t → k (.p t.d) [.p (.str x), .p (.int i)]) ∧ (leafL l = none → kx (er "BadText") [("at", .int i)] [.p (.str x), .p (.int i)])
def sp_term_at (er : Str → Addr) (n : Nat) : ASp := fun os k kx => ∃ (x : Str) (b i : Int) (l : List Nat), os = [.p (.str x), .p (.int b), .p (.int i)] ∧ x.length ≤ 100000 ∧ 0 ≤ b ∧ b ≤ x.length ∧ x.cps.toList.drop b.toNat = l ∧ l.count 40 < n ∧
  (∀ t l', rdT n l = some (t, l') → k (.p (.tuple [t.d, .int ((x.length : Int) - l'.length)])) [.p (.str x), .p (.int b), .p (.int i)]) ∧
  (rdT n l = none → kx (er "BadText") [("at", .int i)] [.p (.str x), .p (.int b), .p (.int i)])
def sp_whole_term (er : Str → Addr) : ASp := fun os k kx => ∃ (x : Str) (i : Int), os = [.p (.str x), .p (.int i)] ∧ x.length ≤ 100000 ∧ x.cps.toList.count 40 < 40 ∧
  (∀ t, rdW 40 x.cps.toList = some t → k (.p t.d) [.p (.str x), .p (.int i)]) ∧ (rdW 40 x.cps.toList = none → kx (er "BadText") [("at", .int i)] [.p (.str x), .p (.int i)])
def sp_read_term (er : Str → Addr) : ASp := fun os k kx => ∃ (x : Str), os = [.p (.str x)] ∧ x.length ≤ 100000 ∧ x.cps.toList.count 40 < 40 ∧
  (∀ t, rdW 40 x.cps.toList = some t → k (.p t.d) [.p (.str x)]) ∧ (rdW 40 x.cps.toList = none → kx (er "BadText") [("at", .int 0)] [.p (.str x)])
def nameOk (s : Str) : Prop := Nx s
def sp_term_text (n : Nat) : ASp := fun os k kx => ∃ t : Tr, os = [.p t.d] ∧ t.down < n ∧ t.ok Nx ∧ t.parts.length ≤ 100 ∧ k (.p (.str t.txt)) [.p t.d]
abbrev sp_law_term_text := sp_term_text
def sp_law_kept : ASp := fun os k kx => os = [] ∧ k (.ow (.ls (keptL.map PyData.str))) []
def sp_law_word : ASp := fun os k kx => ∃ a b, os = [.ls [.int a, .int b]] ∧ ∀ s a' b', Nx s → k (.p (.str s)) [.ls [.int a', .int b']]
def sp_law_any_term (n : Nat) : ASp := fun os k kx => ∃ (a b : Int) (ws : List Str) (rm dn : Int), os = [.ls [.int a, .int b], .ls (ws.map PyData.str), .p (.int rm), .p (.int dn)] ∧ 0 < ws.length ∧ ws.length ≤ 100 ∧ 1 ≤ rm ∧ rm ≤ 17 ∧ 0 ≤ dn ∧ dn < (n : Int) ∧
  ∀ (t : Tr) (a' b' : Int), (t.down : Int) ≤ dn → (t.parts.length : Int) ≤ rm → t.ok (· ∈ ws) → k (.p t.d) [.ls [.int a', .int b'], .ls (ws.map PyData.str), .p (.int rm), .p (.int dn)]
/-- data of texts, whole numbers, tuples -/
inductive Alk : Nat → D → Prop
  | str (n : Nat) (x : Str) : Alk n (.str x)
  | int (n : Nat) (i : Int) : Alk n (.int i)
  | tup {n : Nat} {ds : List D} : (∀ d ∈ ds, Alk n d) → ds.length ≤ 1000 → Alk (n + 1) (.tuple ds)
def sp_law_alike (n : Nat) : ASp := fun os k kx => ∃ (d : D) (m : Nat), os = [.p d, .p d] ∧ Alk m d ∧ m < n ∧ k (.p (.bool true)) [.p d, .p d]
theorem Alk.mono {n m : Nat} {d : D} (h : Alk n d) (l : n ≤ m) : Alk m d := by
  induction h generalizing m with
  | str n x => exact .str _ _
  | int n i => exact .int _ _
  | tup h1 h2 ih =>
    cases m with
    | zero => omega
    | succ m => exact .tup (fun d md => ih d md (by omega)) h2
theorem Tr.alk : ∀ t : Tr, Alk (t.down + 1) t.d
  | .num i => .tup (fun d m => by simp only [List.mem_cons, List.not_mem_nil, or_false] at m; rcases m with rfl | rfl; exact .str _ _; exact .int _ _) (by simp)
  | .cel i => .tup (fun d m => by simp only [List.mem_cons, List.not_mem_nil, or_false] at m; rcases m with rfl | rfl; exact .str _ _; exact .str _ _) (by simp)
  | .inn i => .tup (fun d m => by simp only [List.mem_cons, List.not_mem_nil, or_false] at m; rcases m with rfl | rfl; exact .str _ _; exact .int _ _) (by simp)
  | .op c a b => by
    refine .tup (fun d m => ?_) (by simp)
    simp only [List.mem_cons, List.not_mem_nil, or_false] at m
    simp only [Tr.down]
    rcases m with rfl | rfl | rfl | rfl
    · exact .str _ _
    · exact .str _ _
    · exact (Tr.alk a).mono (by omega)
    · exact (Tr.alk b).mono (by omega)
theorem sg_eq {c d : Nat} : sg c = sg d ↔ c = d := ⟨fun h => by have := congrArg (fun s => s.cps.toList) h; simpa [sg] using this, fun h => by rw [h]⟩
/-! names, numbers: what they come to -/
theorem mem_lett {c : Nat} : c ∈ (Str.ofString "abcdefghijklmnopqrstuvwxyz").cps.toList ↔ 97 ≤ c ∧ c ≤ 122 := by
  have e : (Str.ofString "abcdefghijklmnopqrstuvwxyz").cps.toList = (List.range 26).map (97 + ·) := by decide +kernel
  rw [e, List.mem_map]
  refine ⟨fun ⟨a, m, h⟩ => by have := List.mem_range.mp m; omega, fun h => ⟨c - 97, List.mem_range.mpr (by omega), by omega⟩⟩
theorem mem_dig {c : Nat} : c ∈ (Str.ofString "0123456789").cps.toList ↔ 48 ≤ c ∧ c ≤ 57 := by
  have e : (Str.ofString "0123456789").cps.toList = (List.range 10).map (48 + ·) := by decide +kernel
  rw [e, List.mem_map]
  refine ⟨fun ⟨a, m, h⟩ => by have := List.mem_range.mp m; omega, fun h => ⟨c - 48, List.mem_range.mpr (by omega), by omega⟩⟩
theorem name_1 {x : Str} (h : (x.length : Int) < 1) : isNameL x.cps.toList = false := by
  unfold isNameL
  rw [decide_eq_false (by rw [← VL.len_list]; omega)]; simp
theorem name_2 {x : Str} (h : (6 : Int) < x.length) : isNameL x.cps.toList = false := by
  unfold isNameL
  rw [decide_eq_false (p := _ ≤ 6) (by rw [← VL.len_list]; omega)]; simp
theorem name_3 {x : Str} (h : inKept x = true) : isNameL x.cps.toList = false := by
  unfold isNameL
  rw [mkS_of, h]; simp
theorem name_4 {x : Str} (h1 : ¬ (x.length : Int) < 1) (h2 : ¬ (6 : Int) < x.length) (h3 : inKept x = false) : (x.cps.toList.map fun c => decide (c ∈ (Str.ofString "abcdefghijklmnopqrstuvwxyz").cps.toList)).all id = isNameL x.cps.toList := by
  unfold isNameL
  rw [mkS_of, h3, decide_eq_true (by rw [← VL.len_list]; omega), decide_eq_true (by rw [← VL.len_list]; omega), List.all_map]
  simp only [Bool.not_false, Bool.true_and]
  congr 1
  funext c
  exact decide_eq_decide.mpr mem_lett
theorem num_1 {x : Str} (h : ¬ (x.length : Int) ≤ 6) : isNumL x.cps.toList = false := by
  unfold isNumL
  rw [decide_eq_false (by rw [← VL.len_list]; omega)]; simp
theorem num_2 {x : Str} (h : ¬ (0 : Int) < x.length) : isNumL x.cps.toList = false := by
  unfold isNumL
  rw [decide_eq_false (by rw [← VL.len_list]; omega)]; simp
theorem num_dig {l : List Nat} : (l.map fun c => decide (c ∈ (Str.ofString "0123456789").cps.toList)).all id = l.all isDig := by
  rw [List.all_map]
  congr 1
  funext c
  exact decide_eq_decide.mpr mem_dig
theorem num_3 {x : Str} (h : x.cps.toList.all isDig = false) : isNumL x.cps.toList = false := by
  unfold isNumL
  rw [h]; simp
theorem num_4 {x : Str} (h1 : (0 : Int) < x.length) (h2 : (x.length : Int) ≤ 6) (h3 : x.cps.toList.all isDig = true) : isNumL x.cps.toList = (decide (x.cps.toList.length = 1) || !decide (x.cps.toList.head? = some 48)) := by
  unfold isNumL
  rw [h3, decide_eq_true (by rw [← VL.len_list]; omega)]; simp
theorem zero_sg : ("0" : Str) = sg 48 := by decide +kernel
theorem ix_first {K : Nat → Prop} {x : Str} {c : Nat} {l : List Nat} (h : x.cps.toList = c :: l) (k : K c) : ∃ c, L2.atI x.cps.toList 0 = some c ∧ K c := ⟨c, by rw [h]; exact atI_nat (j := 0) rfl, k⟩
/-! signs at a place -/
section
variable {x : Str} {b e : Int} {l : List Nat}
theorem cut_one (h0 : 0 ≤ b) (h1 : e = b + 1) : cutS x (some b) (some e) = mkS ((x.cps.toList.drop b.toNat).take 1) := by
  subst h1
  refine str_ext ?_
  rw [mkS_l, cut_list]
  unfold cutD
  have e1 : HT.sIx x.cps.toList.length 0 (some b) = min b.toNat x.cps.toList.length := by
    rw [show b = ((b.toNat : Nat) : Int) by omega, HT.sIx_nat]
    rw [show (((b.toNat : Nat) : Int)).toNat = b.toNat by omega]
  have e2 : HT.sIx x.cps.toList.length x.cps.toList.length (some (b + 1)) = min (b.toNat + 1) x.cps.toList.length := by
    rw [show b + 1 = ((b.toNat + 1 : Nat) : Int) by omega, HT.sIx_nat]
  rw [e1, e2]
  by_cases h : b.toNat < x.cps.toList.length
  · rw [Nat.min_eq_left (by omega), Nat.min_eq_left (by omega)]
    congr 1
    omega
  · have d1 : x.cps.toList.drop (min b.toNat x.cps.toList.length) = [] := List.drop_eq_nil_of_le (by omega)
    have d2 : x.cps.toList.drop b.toNat = [] := List.drop_eq_nil_of_le (by omega)
    rw [d1, d2]
    simp
theorem cut_from (h0 : 0 ≤ b) {w : List Nat} (hw : e = b + w.length) (hl : x.cps.toList.drop b.toNat = w ++ l) : cutS x (some b) (some e) = mkS w := by
  subst hw
  refine str_ext ?_
  rw [mkS_l, cut_list]
  unfold cutD
  have ll := congrArg List.length hl
  rw [List.length_drop, List.length_append] at ll
  have e1 : HT.sIx x.cps.toList.length 0 (some b) = min b.toNat x.cps.toList.length := by
    rw [show b = ((b.toNat : Nat) : Int) by omega, HT.sIx_nat]
    rw [show (((b.toNat : Nat) : Int)).toNat = b.toNat by omega]
  have e2 : HT.sIx x.cps.toList.length x.cps.toList.length (some (b + w.length)) = min (b.toNat + w.length) x.cps.toList.length := by
    rw [show b + (w.length : Int) = ((b.toNat + w.length : Nat) : Int) by omega, HT.sIx_nat]
  rw [e1, e2]
  by_cases h : b.toNat < x.cps.toList.length
  · rw [Nat.min_eq_left (by omega), Nat.min_eq_left (by omega), hl, show b.toNat + w.length - b.toNat = w.length by omega, List.take_left']
    rfl
  · have hn : w.length = 0 := by omega
    have : w = [] := List.eq_nil_of_length_eq_zero hn
    subst this
    simp
theorem cut_lst (h0 : 0 ≤ b) (h1 : e = b + 1) (hl : x.cps.toList.drop b.toNat = l) : cutS x (some b) (some e) = mkS (l.take 1) := by rw [cut_one h0 h1, hl]
theorem cut_sg {c : Nat} (h0 : 0 ≤ b) (h1 : e = b + 1) (hl : x.cps.toList.drop b.toNat = c :: l) : cutS x (some b) (some e) = sg c := by rw [cut_lst h0 h1 hl]; rfl
theorem drop_more {p : List Nat} (hl : x.cps.toList.drop b.toNat = p ++ l) (h0 : 0 ≤ b) (he : e = b + p.length) : x.cps.toList.drop e.toNat = l := by
  subst he
  rw [show (b + (p.length : Int)).toNat = b.toNat + p.length by omega, ← List.drop_drop, hl, List.drop_left']
  rfl
theorem drop_back {p : List Nat} (hl : x.cps.toList.drop b.toNat = p ++ l) (he : e = (x.length : Int) - l.length) : 0 ≤ e ∧ e ≤ x.length ∧ x.cps.toList.drop e.toNat = l := by
  have ll := congrArg List.length hl
  rw [List.length_drop, List.length_append, ← len_list] at ll
  have h1 : l.length ≤ x.length := by omega
  refine ⟨by omega, by omega, ?_⟩
  have h2 : x.cps.toList = (x.cps.toList.take b.toNat ++ p) ++ l := by rw [List.append_assoc, ← hl, List.take_append_drop]
  have h3 := congrArg List.length h2
  rw [List.length_append, ← len_list] at h3
  subst he
  rw [show ((x.length : Int) - l.length).toNat = (x.cps.toList.take b.toNat ++ p).length by omega]
  refine (congrArg (List.drop _) h2).trans ?_
  exact List.drop_left' rfl
theorem sg_ne_empty {c : Nat} : ¬ sg c = "" := by
  intro h
  have := congrArg (fun s => s.cps.toList) h
  simp only [sg] at this
  exact absurd this (by have : (Str.ofString "").cps.toList = [] := by decide +kernel
                        rw [this]; simp)
theorem take1_sg {d : Nat} : mkS (l.take 1) = sg d ↔ l.head? = some d := by
  cases l with
  | nil =>
    refine ⟨fun h => ?_, fun h => by cases h⟩
    have := congrArg (fun s => s.cps.toList) h
    simp [mkS, sg] at this
  | cons c l =>
    rw [show mkS ((c :: l).take 1) = sg c from rfl, sg_eq]
    simp
theorem head_cons {d : Nat} (h : l.head? = some d) : ∃ l', l = d :: l' := by
  cases l with
  | nil => cases h
  | cons c l => cases h; exact ⟨l, rfl⟩
theorem sgs : ("(" : Str) = sg 40 ∧ (")" : Str) = sg 41 ∧ (" " : Str) = sg 32 := by decide +kernel
end
theorem num_int {x : Str} (h : isNumL x.cps.toList = true) : PySem.intText? x = some ((NumText.digitsVal x.cps.toList : Nat) : Int) ∧ x.length ≤ 640 := by
  unfold isNumL at h
  rw [Bool.and_eq_true, Bool.and_eq_true, decide_eq_true_eq] at h
  obtain ⟨⟨⟨h0, h1⟩, h2⟩, _⟩ := h
  rw [← VL.len_list] at h0 h1
  refine ⟨intText_digits (fun c m => ?_) (fun e => ?_) (by omega), by omega⟩
  · have := List.all_eq_true.mp h2 c m
    unfold isDig at this
    exact of_decide_eq_true this
  · rw [VL.len_list, e] at h0
    exact absurd h0 (by simp)
theorem in_w2 : ∀ x : Str, x = "in0" ∨ x = "in1" ∨ x = "in2" → ∃ c n, L2.atI x.cps.toList 2 = some c ∧ PySem.intText? ⟨#[c]⟩ = some n ∧ leafL x.cps.toList = some (.inn n) := by
  have h0 : PySem.intText? ⟨#[48]⟩ = some 0 := intText_digits (x := ⟨#[48]⟩) (show ∀ c ∈ [48], 48 ≤ c ∧ c ≤ 57 by decide) (by decide) (by decide)
  have h1 : PySem.intText? ⟨#[49]⟩ = some 1 := intText_digits (x := ⟨#[49]⟩) (show ∀ c ∈ [49], 48 ≤ c ∧ c ≤ 57 by decide) (by decide) (by decide)
  have h2 : PySem.intText? ⟨#[50]⟩ = some 2 := intText_digits (x := ⟨#[50]⟩) (show ∀ c ∈ [50], 48 ≤ c ∧ c ≤ 57 by decide) (by decide) (by decide)
  rintro x (rfl | rfl | rfl)
  · exact ⟨48, 0, by decide +kernel, h0, by unfold leafL; rw [if_pos (by decide +kernel)]⟩
  · exact ⟨49, 1, by decide +kernel, h1, by unfold leafL; rw [if_neg (by decide +kernel), if_pos (by decide +kernel)]⟩
  · exact ⟨50, 2, by decide +kernel, h2, by unfold leafL; rw [if_neg (by decide +kernel), if_neg (by decide +kernel), if_pos (by decide +kernel)]⟩
theorem leaf_rest {x : Str} (h : ¬ ("in0" : Str) = x ∧ ¬ ("in1" : Str) = x ∧ ¬ ("in2" : Str) = x) : leafL x.cps.toList = if isNumL x.cps.toList = true then some (.num ((NumText.digitsVal x.cps.toList : Nat) : Int)) else if isNameL x.cps.toList = true then some (.cel x) else none := by
  unfold leafL
  rw [mkS_of, if_neg fun e => h.1 e.symm, if_neg fun e => h.2.1 e.symm, if_neg fun e => h.2.2 e.symm]
theorem leaf_1 {x : Str} (h : ¬ ("in0" : Str) = x ∧ ¬ ("in1" : Str) = x ∧ ¬ ("in2" : Str) = x) (c : isNumL x.cps.toList = true) : leafL x.cps.toList = some (.num ((NumText.digitsVal x.cps.toList : Nat) : Int)) := by rw [leaf_rest h, if_pos c]
theorem leaf_2 {x : Str} (h : ¬ ("in0" : Str) = x ∧ ¬ ("in1" : Str) = x ∧ ¬ ("in2" : Str) = x) (c : isNumL x.cps.toList = false) (d : isNameL x.cps.toList = true) : leafL x.cps.toList = some (.cel x) := by rw [leaf_rest h, if_neg (by rw [c]; exact Bool.false_ne_true), if_pos d]
theorem leaf_3 {x : Str} (h : ¬ ("in0" : Str) = x ∧ ¬ ("in1" : Str) = x ∧ ¬ ("in2" : Str) = x) (c : isNumL x.cps.toList = false) (d : isNameL x.cps.toList = false) : leafL x.cps.toList = none := by rw [leaf_rest h, if_neg (by rw [c]; exact Bool.false_ne_true), if_neg (by rw [d]; exact Bool.false_ne_true)]
theorem whole_1 {x : Str} {t : Tr} {l : List Nat} (ht : rdT 40 x.cps.toList = some (t, l)) (q : decide ((x.length : Int) - l.length = x.length) = true) : rdW 40 x.cps.toList = some t := by
  have q := of_decide_eq_true q
  have : l = [] := List.eq_nil_of_length_eq_zero (by omega)
  subst this
  unfold rdW
  rw [ht]
theorem whole_2 {x : Str} {t : Tr} {l : List Nat} (ht : rdT 40 x.cps.toList = some (t, l)) (q : decide ((x.length : Int) - l.length = x.length) = false) : rdW 40 x.cps.toList = none := by
  have q := of_decide_eq_false q
  cases l with
  | nil => exact absurd (by simp) q
  | cons c l => unfold rdW; rw [ht]
theorem whole_3 {x : Str} (ht : rdT 40 x.cps.toList = none) : rdW 40 x.cps.toList = none := by unfold rdW; rw [ht]
theorem join3_len (x y z : Str) : (Txt.join " " [x, y, z]).length = x.length + y.length + z.length + 2 := by
  rw [TL.join_eq]
  have z2 : (Str.ofString " ").length = 1 := by decide +kernel
  show (x ++ " " ++ (y ++ " " ++ z) : Str).length = _
  simp only [app_len, z2]
  omega
theorem kept_len : keptL.length = 8 := by decide
theorem kept_sg : ∀ n ∈ keptL, ∀ i < 26, n ++ sg (97 + i) ∉ keptL := by decide +kernel
theorem kept_pos : ∀ n ∈ keptL, 1 ≤ n.length := by decide +kernel
theorem kept_nx {n : Str} {c : Nat} (h : n ∈ keptL) (h0 : 97 ≤ c) (h1 : c ≤ 122) : Nx (n ++ sg c) := by
  have q := kept_q n h
  have e : (sg c).length = 1 := rfl
  have p := kept_pos n h
  refine ⟨by rw [app_len]; omega, by rw [app_len]; omega, low_app q.2.1 (low_one h0 h1), ?_⟩
  have := kept_sg n h (c - 97) (by omega)
  rwa [show 97 + (c - 97) = c by omega] at this
theorem kept_z : ∀ n ∈ keptL, Nx (cutS n none (some (-1)) ++ "z") := by
  intro n m
  have k : cutS n none (some (-1)) ++ "z" ∉ keptL ∧ 1 ≤ (cutS n none (some (-1)) ++ ("z" : Str)).length ∧ (cutS n none (some (-1)) ++ ("z" : Str)).length ≤ 6 := by
    revert m n
    decide +kernel
  exact ⟨k.2.1, k.2.2, low_app (low_cut (kept_q n m).2.1 _ _) (by unfold isLow; decide +kernel), k.1⟩
theorem inK_mem {x : Str} (h : ((keptL.map PyData.str).any fun z => PyData.eqv z (.str x)) = true) : x ∈ keptL := inKept_iff.mp h
theorem inK_not {x : Str} (h : ((keptL.map PyData.str).any fun z => PyData.eqv z (.str x)) = false) : x ∉ keptL := fun m => by
  have := inKept_iff.mpr m
  unfold inKept at this
  rw [this] at h
  cases h
theorem zipD_self {ds : List D} : zipD ds ds = ds.map fun d => .tuple [d, d] := by
  unfold zipD
  induction ds with
  | nil => rfl
  | cons d ds ih => rw [List.zip_cons_cons, List.map_cons, List.map_cons, ih]
theorem ix_let2 {K : Nat → Prop} {i : Int} (h0 : 0 ≤ i) (h : i < 26) (k : K (97 + i.toNat)) : ∃ c, L2.atI (Str.ofString "abcdefghijklmnopqrstuvwxyz").cps.toList i = some c ∧ K c := ix_lett h0 h k
section
variable {x s : Str} {e b : Int} {l : List Nat} {d j : Nat}
theorem cut_is (hs : s = sg d) (h0 : 0 ≤ e) (hl : x.cps.toList.drop e.toNat = l) : cutS x (some e) (some (e + 1)) = s ↔ l.head? = some d := by
  rw [cut_lst h0 rfl hl, hs, take1_sg]
theorem word_pre (l : List Nat) : ∃ r, l = wordL l ++ r := ⟨l.dropWhile _, List.takeWhile_append_dropWhile.symm⟩
theorem word_drop (l : List Nat) : l = wordL l ++ l.drop (wordL l).length := by
  obtain ⟨r, e⟩ := word_pre l
  have h : l.drop (wordL l).length = r := (congrArg (List.drop (wordL l).length) e).trans (List.drop_left' rfl)
  rw [h]
  exact e
theorem word_sep : ∀ {l : List Nat} {c : Nat}, c ∈ wordL l → sepB c = false
  | [], c, m => by cases m
  | a :: l, c, m => by
    unfold wordL at m
    rw [List.takeWhile_cons] at m
    split at m
    · rename_i h
      rcases List.mem_cons.mp m with rfl | m
      · simpa using h
      · exact word_sep m
    · cases m
theorem word_stop : ∀ {l : List Nat} {c : Nat}, l[(wordL l).length]? = some c → sepB c = true
  | [], c, m => by simp at m
  | a :: l, c, m => by
    unfold wordL at m
    rw [List.takeWhile_cons] at m
    split at m
    · rw [List.length_cons, List.getElem?_cons_succ] at m
      exact word_stop m
    · rename_i h
      simp only [List.length_nil, List.getElem?_cons_zero, Option.some.injEq] at m
      subst m
      simpa using h
theorem sep_in {c : Nat} : (⟨#[c]⟩ : Str).cps.getD 0 0 ∈ (Str.ofString " ()").cps.toList ↔ sepB c = true := by
  have e : (Str.ofString " ()").cps.toList = [32, 40, 41] := by decide +kernel
  rw [e]
  unfold sepB
  rw [decide_eq_true_eq]
  exact Iff.rfl
theorem atI_drop (h0 : 0 ≤ b) (hl : x.cps.toList.drop b.toNat = l) : L2.atI x.cps.toList (b + (j : Int)) = l[j]? := by
  rw [atI_of (by omega), ← hl, List.getElem?_drop]
  congr 1
  omega
theorem word_at (h0 : 0 ≤ b) (hl : x.cps.toList.drop b.toNat = l) (hj : j < (wordL l).length) : b + (j : Int) < x.length ∧ ∃ c, L2.atI x.cps.toList (b + (j : Int)) = some c ∧ ¬ (⟨#[c]⟩ : Str).cps.getD 0 0 ∈ (Str.ofString " ()").cps.toList := by
  have ll := congrArg List.length (word_drop l)
  rw [List.length_append] at ll
  have l2 := congrArg List.length hl
  rw [List.length_drop, ← VL.len_list] at l2
  refine ⟨by omega, (wordL l)[j], ?_, ?_⟩
  · rw [atI_drop h0 hl]
    conv => lhs; rw [word_drop l]
    rw [List.getElem?_append_left hj, List.getElem?_eq_getElem hj]
  · rw [sep_in, word_sep (List.getElem_mem hj)]
    exact Bool.false_ne_true
theorem word_no (h0 : 0 ≤ b) (hl : x.cps.toList.drop b.toNat = l) (hj : b + ((wordL l).length : Int) < x.length) : ∃ c, L2.atI x.cps.toList (b + ((wordL l).length : Int)) = some c ∧ (⟨#[c]⟩ : Str).cps.getD 0 0 ∈ (Str.ofString " ()").cps.toList := by
  have l2 := congrArg List.length hl
  rw [List.length_drop, ← VL.len_list] at l2
  have hi : (wordL l).length < l.length := by omega
  refine ⟨l[(wordL l).length], ?_, ?_⟩
  · rw [atI_drop h0 hl, List.getElem?_eq_getElem hi]
  · rw [sep_in]
    exact word_stop (List.getElem?_eq_getElem hi)
theorem word_end (b0 : 0 ≤ b) (hb : b ≤ x.length) (hl : x.cps.toList.drop b.toNat = l) : (x.length : Int) - (l.drop (wordL l).length).length = b + (wordL l).length := by
  have l2 := congrArg List.length hl
  rw [List.length_drop, ← VL.len_list] at l2
  have ll := congrArg List.length (word_drop l)
  rw [List.length_append] at ll
  omega
end
/-! the reader's ways -/
section
variable {n c : Nat} {l1 l2 l3 l4 l5 : List Nat} {a b : Tr}
theorem rd_r0 : rdT (n + 1) [40] = none := by rw [rdT_op]
theorem rd_r1 (h : c ∉ sixL) : rdT (n + 1) (40 :: c :: l1) = none := by
  rw [rdT_op]
  split
  · rename_i e
    cases e
    rw [if_neg h]
  · rfl
theorem rd_r2 (h : l1.head? ≠ some 32) : rdT (n + 1) (40 :: c :: l1) = none := by
  rw [rdT_op]
  split
  · rename_i e
    cases e
    exact absurd rfl h
  · rfl
theorem rd_r3 (hc : c ∈ sixL) (h : rdT n l1 = none) : rdT (n + 1) (40 :: c :: 32 :: l1) = none := by
  rw [rdT_op]
  simp only [hc, ↓reduceIte, h]
theorem rd_r4 (hc : c ∈ sixL) (h : rdT n l1 = some (a, l2)) (h2 : l2.head? ≠ some 32) : rdT (n + 1) (40 :: c :: 32 :: l1) = none := by
  rw [rdT_op]
  simp only [hc, ↓reduceIte, h]
  split
  · rename_i e
    cases e
    exact absurd rfl h2
  · rfl
theorem rd_r5 (hc : c ∈ sixL) (h : rdT n l1 = some (a, 32 :: l3)) (h2 : rdT n l3 = none) : rdT (n + 1) (40 :: c :: 32 :: l1) = none := by
  rw [rdT_op]
  simp only [hc, ↓reduceIte, h, h2]
theorem rd_r6 (hc : c ∈ sixL) (h : rdT n l1 = some (a, 32 :: l3)) (h2 : rdT n l3 = some (b, l4)) (h3 : l4.head? ≠ some 41) : rdT (n + 1) (40 :: c :: 32 :: l1) = none := by
  rw [rdT_op]
  simp only [hc, ↓reduceIte, h, h2]
  split
  · rename_i e
    cases e
    exact absurd rfl h3
  · rfl
theorem rd_r7 (hc : c ∈ sixL) (h : rdT n l1 = some (a, 32 :: l3)) (h2 : rdT n l3 = some (b, 41 :: l5)) : rdT (n + 1) (40 :: c :: 32 :: l1) = some (.op c a b, l5) := by
  rw [rdT_op]
  simp only [hc, ↓reduceIte, h, h2]
theorem cnt_suf {p l l' : List Nat} (h : l = p ++ l') : l'.count 40 ≤ l.count 40 := by
  rw [h, List.count_append]
  omega
end
theorem Tr.okm {S T : Str → Prop} (h : ∀ s, S s → T s) : ∀ {t : Tr}, t.ok S → t.ok T
  | .num _, q => q
  | .cel s, q => h s q
  | .inn _, q => q
  | .op _ _ _, q => ⟨q.1, Tr.okm h q.2.1, Tr.okm h q.2.2⟩
/-- a term whose text is read -/
structure TmOk (n m : Nat) (t : Tr) : Prop where
  ok : t.ok Nx
  dn : t.down ≤ n
  pt : t.parts.length ≤ m
theorem TmOk.len {n m : Nat} {t : Tr} (h : TmOk n m t) : t.txt.length ≤ 12 * m := Nat.le_trans (txt_len (fun _ h => h) h.ok) (Nat.mul_le_mul_left _ h.pt)
theorem TmOk.cnt {n m : Nat} {t : Tr} (h : TmOk n m t) : t.txt.cps.toList.count 40 < m := Nat.lt_of_lt_of_le (txt_cnt (fun _ h => h) h.ok) h.pt
theorem TmOk.rd {n m : Nat} {t : Tr} (h : TmOk n m t) (hn : n < 40) : rdW 40 t.txt.cps.toList = some t := rdW_txt (fun _ h => h) h.ok (by have := h.dn; omega)
theorem TmOk.alk {n m : Nat} {t : Tr} (h : TmOk n m t) : Alk (n + 1) t.d := t.alk.mono (by have := h.dn; omega)
end VL

/-! BadText, made and raised: lines of the skeleton 42 turned to this class (printed by exc.py). -/
namespace PySem
namespace BadTextX
open PySem.W PySem.Calls PyProof.Rows PySem.HandSPX
/-! ### the text of __init__ -/
def iA (p1 p2 : Pos) : Arguments := { posonlyargs := [], args := [{ arg := "self", annotation := none, pos := p1 }, { arg := "at", annotation := none, pos := p2 }], vararg := none, kwonlyargs := [], kw_defaults := [], kwarg := none, defaults := [] }
def iB (q1 q2 q3 q4 : Pos) : List Stmt := [.Assign [.Attribute (.Name "self" q1) "at" q2] (.Name "at" q3) q4]
def iS : Scope := { kind := .function, names := [(PySem.Str.ofString "self", .local), (PySem.Str.ofString "at", .local)], isGenerator := false, isCoroutine := false, more := [] }
/-- what the written part says of BadText, at C, and of its __init__, at fI -/
structure BadTextTxt (K : Frag) (mg : Str → Option Value) (C fI : Addr) : Prop where
  gC : mg "BadText" = some (.ref C)
  cls : ∃ nm q N bs bm sn sub ab col dd k0 k1 k2 k3 k5, K.lookup C = some (excClassObj nm q C N bs bm true sn sub ab col dd k0 k1 k2 k3 k5 "ValueError.__new__") ∧ refsVE bm = true
  sa : findIn K (.ref C) "__setattr__" = some (some (.builtin "object.__setattr__"))
  ga : findIn K (.ref C) "__getattribute__" = some (some (.builtin "BaseException.__getattribute__"))
  gg : findIn K (.ref C) "__getattr__" = some none
  noN : findIn K (.ref C) "at" = some none
  iC : findIn K (.ref C) "__init__" = some (some (.ref fI))
  tC : typeIn K (.ref fI) = some (.type "function")
  kC : keepIn K (.ref C) = true
  exC : subIn K (.ref C) (.type "BaseException") = some true
  tyC : typeIn K (.ref C) = some (.type "type")
  hdC : hasDictIn K C = true
  fn : ∃ (oc : Value) (od : Option Addr) (doc pm : Value) (an : Option Addr) (cdv ct : Value) (osl : Array (Option Value)) (p1 p2 q1 q2 q3 q4 : Pos),
    K.lookup fI = some ⟨oc, od, .func (fnOf "__init__" "BadText.__init__" (iA p1 p2) (iB q1 q2 q3 q4) iS .none .none doc pm an cdv ct), osl⟩ ∧ codeIn K cdv "BadText.__init__" = true
theorem one_size (v : Value) : [v].length ≤ sizeLine := by
  rw [sizeLine_eq]
  exact (by decide : 1 ≤ 16777216)
theorem kept_but {K : Frag} {h h' : Heap} {x : Addr} (X : K.In h) (hx : K.lookup x = none) (k : ∀ b o, b ≠ x → h.get? b = some o → h'.get? b = some o) : K.In h' := fun a o e =>
  k a o (fun z => by rw [z, hx] at e; cases e) (X a o e)
theorem ldC {M : Model} {s : Shared} {name : Str} {scope : Scope} {L a : Addr} {cd : Value} {m : Str → Option Value} {x : Str} {pos : Pos} {v : Value} {Q : Value → Shared → Prop} {A : Around} {E : Value → Shared → Prop} (hn : s.heap.Ns L m) (hv : m x = some v) (h : Q v s)
    (hk : scope.kind = .function := by rfl) (hl : (envOfC name scope L a cd).kindOf x = some .local := by rfl) (hd : (x == ("__debug__" : Str)) = false := by decide) :
    wpAny M A (eval (.Name x pos) (envOfC name scope L a cd)) Q E s := wpAny_Name (wpAny_loadName_local hk hl hn hv h) hd
/-- what __init__ leaves of a fresh exception at x -/
structure InitEnd (h h' : Heap) (x C dx t1 : Addr) (v : Value) : Prop where
  keep : ∀ b o, b ≠ x → h.get? b = some o → h'.get? b = some o
  obj : h'.get? x = some { cls := .ref C, dict := some dx, data := .fields #[.ref t1, .none, .none, .none, .bool false, .none] }
  dbig : h.objs.size ≤ dx
  dne : dx ≠ x
  ns : h'.Ns1 dx (fun y => if y = "at" then some v else none)
/-- a made BadText -/
structure OwnMade (h h' : Heap) (e C d : Addr) (v : Value) : Prop where
  keep : ∀ b o, h.get? b = some o → h'.get? b = some o
  new : h.objs.size ≤ e
  obj : ∃ oe vs, h'.get? e = some oe ∧ oe.cls = .ref C ∧ oe.dict = some d ∧ oe.data = .fields vs ∧ vs[1]? = some .none
  dbig : h.objs.size ≤ d
  dne : d ≠ e
  ns : h'.Ns1 d (fun y => if y = "at" then some v else none)
section
variable {prog : Program} {w : World} {A : Around} {E : Value → Shared → Prop} {R : Result → Shared → Prop} {s : Shared} {K : Frag} {mg : Str → Option Value} {C fI : Addr}
theorem BadText_init (T : BadTextTxt K mg C fI) {x t0 : Addr} {v : Value} (X : K.In s.heap) (hlim : s.heap.NoLimit) (hx : s.heap.get? x = some (excO C t0)) (hnx : K.lookup x = none) (hroom : A.depth < recursionLimit)
    (hq : ∀ h' tk dx, InitEnd s.heap h' x C dx t0 v → R (.ok (.ret .none)) { s with heap := h', toks := tk }) :
    codeAny (model prog w) A (.call (.ref fI) ⟨[.ref x, v], []⟩) R s := by
  obtain ⟨oc, od, doc, pm, an, cdv, ct, osl, p1, p2, q1, q2, q3, q4, ho, hcd⟩ := T.fn
  obtain ⟨nm, q, N, bs, bm, sn, sub, ab, col, dd, k0, k1, k2, k3, k5, hC, hbm⟩ := T.cls
  have hcl : clsIn K C = some { name := nm, bases := bs, mro := .ref C :: bm, ns := N, qualname := q, hasDict := true, slotNames := sn, subclasses := sub, abstract := ab, collection := col, hasDel := false } := by unfold clsIn; rw [hC] <;> rfl
  refine Att.call_fn (binds := [("self", .ref x), ("at", v)]) X hlim ho hcd hroom (BindsTo.of_eq (by first | rfl | with_unfolding_all rfl)) (by first | rfl | decide | with_unfolding_all rfl) (fun s₁ IC => ?_) rfl rfl rfl
  obtain ⟨h₁, tk₁, rfl⟩ := IC.toInCall.same
  have k : ∀ b o, s.heap.get? b = some o → h₁.get? b = some o := IC.toInCall.keep
  have hn := IC.toInCall.ns
  have hxL : s.heap.objs.size ≠ x := Nat.ne_of_gt (Heap.lt_size hx)
  have X₁ : K.In h₁ := X.keeps k
  have hx₁ := k _ _ hx
  -- self.by = by
  show wpAny _ _ (execs _ _) _ _ _
  refine wpAny_execs_cons (plainObj_wpAny_Assign_Attribute ?_)
  refine ldC (v := v) hn (by first | rfl | with_unfolding_all rfl | kernel_rfl) (ldC (v := .ref x) hn (by first | rfl | with_unfolding_all rfl | kernel_rfl) ?_)
  refine set_plain X₁ (ox := excO C t0) (od := none) ⟨hx₁, rfl, rfl, trivial⟩ T.sa ?_
  refine exc_osa X₁ hx₁ hcl (show refsVE (.ref C :: bm) = true from hbm) rfl T.noN (fun h₃ tk₃ dx k₃ dn dne hx₃ hn₃ => ?_)
  show wpAny _ _ (execs _ _) _ _ _
  have z : s.heap.objs.size < h₁.objs.size := hn.lt
  exact wpAny_execs_nil (hq h₃ tk₃ dx ⟨fun b o hb e => k₃ b o hb (k b o e), hx₃, Nat.le_of_lt (Nat.lt_of_lt_of_le z dn), dne, hn₃⟩)
theorem BadText_made (T : BadTextTxt K mg C fI) {v : Value} (X : K.In s.heap) (hlim : s.heap.NoLimit) (hroom : A.depth + 1 < recursionLimit)
    (hq : ∀ h' tk e d, OwnMade s.heap h' e C d v → R (.ok (.ret (.ref e))) { s with heap := h', toks := tk }) :
    codeAny (model prog w) A (.call (.ref C) ⟨[v], []⟩) R s := by
  obtain ⟨nm, q, N, bs, bm, sn, sub, ab, col, dd, k0, k1, k2, k3, k5, hC, hbm⟩ := T.cls
  obtain ⟨hp, g, dr, tk, os⟩ := s
  have k : ∀ b o, hp.get? b = some o → ((hp.push (kdv_tup [v])).push (excO C hp.objs.size)).get? b = some o := fun b o e => Heap.get?_push_of_some _ (Heap.get?_push_of_some _ e)
  have hget : ((hp.push (kdv_tup [v])).push (excO C hp.objs.size)).get? (hp.objs.size + 1) = some (excO C hp.objs.size) := by heap_get
  have hnx : K.lookup (hp.objs.size + 1) = none := by
    cases e : K.lookup (hp.objs.size + 1) with
    | none => rfl
    | some o =>
      have z : hp.get? (hp.objs.size + 1) = some o := X _ _ e
      exact absurd (Nat.lt_of_succ_lt (Heap.lt_size z)) (Nat.lt_irrefl _)
  refine call_own F.excBase_ValueError (fun X => refsVE_contains X bm hbm) (X _ _ hC) (looks_findIn X T.iC) (fun self => bind_fn X self T.tC) (one_size v) ?_
  refine BadText_init (s := ⟨(hp.push (kdv_tup [v])).push (excO C hp.objs.size), g, dr, tk, os⟩) T (X.keeps k) (hlim.keeps k) hget hnx ?_ fun h' tk' dx ⟨k', hx, dn, dne, hns⟩ => ?_
  · show A.depth + 1 < recursionLimit
    exact hroom
  · have old : ∀ b o, hp.get? b = some o → h'.get? b = some o := fun b o e => k' b o (Nat.ne_of_lt (Nat.lt_succ_of_lt (Heap.lt_size e))) (k b o e)
    have z : hp.objs.size + 1 + 1 ≤ dx := by
      first
        | (simpa only [Heap.size_push] using dn)
        | exact dn
        | (have q := dn; rw [Heap.size_push, Heap.size_push] at q; exact q)
    exact ⟨rfl, hq h' tk' (hp.objs.size + 1) dx ⟨old, Nat.le_succ _, ⟨_, _, hx, rfl, rfl, rfl, rfl⟩, Nat.le_trans (Nat.le_trans (Nat.le_succ _) (Nat.le_succ _)) z, dne, hns⟩⟩
end
end BadTextX
end PySem
namespace L2
open PySem PySem.Spec PyProof.Rows
theorem relO_BadText {v : V} {v' : Value} (r : RelV v v') (f : Str) : RelO (List.lookup f [(("at" : Str), v)]) (if f = "at" then some v' else none) := by
  by_cases hw : f = "at"
  · subst hw
    rw [if_pos rfl]
    have q : List.lookup ("at" : Str) [(("at" : Str), v)] = some v := by simp [List.lookup]
    rw [q]
    exact r
  · rw [if_neg hw]
    have qw : (f == ("at" : Str)) = false := by simpa using hw
    have q2 : List.lookup f [(("at" : Str), v)] = none := by simp [List.lookup, qw]
    rw [q2]
    trivial
section
variable {X : Cx} {C fI : Addr}
theorem pmk_BadText {a : Expr} {ta : TA} {p pos : Pos} {k : Nat} (T : PySem.BadTextX.BadTextTxt X.K X.mg C fI) (hr : Room k X.A) (ha : PA X [a] ta) (hg : Gl X "BadText" := by rfl)
    (he : starEach (a :: []) X.env = (false, eval a X.env) :: starEach [] X.env := by rfl) (hpl : (backTo pos (starEach [] X.env)).any (·.1) = false := by rfl) :
    PMk X (.Call (.Name "BadText" p) [a] [] pos) (VL.tMk1 C "at" ta) := by
  intro pins s σ H Q I h
  refine wpAny_Call_Name_kw (ld_glob I hg T.gC ?_)
  refine PySem.W.callWith_K (h₀ := X.base) I.ok.mod.kin T.kC (thn (ha.run pos pins s σ H _ I h) fun us s1 hh => ?_) he hpl
  obtain ⟨vs, H1, I1, r1, v, ev, q1⟩ := hh
  subst ev
  refine ⟨I1.kIn, ?_⟩
  cases r1 with
  | cons rv rn =>
    rename_i v' us'
    cases rn
    show wpAny _ _ (call (.ref C) [v']) _ _ _
    have hlim := I1.nolimit
    obtain ⟨hp, g, dr, tk, os⟩ := s1
    refine wpAny_call (PySem.BadTextX.BadText_made T I1.kIn hlim (by have := hr.dp; omega) fun h' tk' e d M => ?_)
    show MkP X pins σ Q (.ref e) ⟨h', g, dr, tk', os⟩
    obtain ⟨oe, fv, hoe, hc, hd, hdat, h1⟩ := M.obj
    have hns := M.ns
    obtain ⟨G', g1, g2⟩ := restrict h' fun b => decide (b ≠ e)
    have gk : ∀ b, b ≠ e → G'.get? b = h'.get? b := fun b hb => g1 b (decide_eq_true hb)
    have ge : G'.get? e = none := g2 e (by simp)
    have old : ∀ b o, hp.get? b = some o → G'.get? b = some o := fun b o q => (gk b (Nat.ne_of_lt (Nat.lt_of_lt_of_le (Heap.lt_size q) M.new))).trans (M.keep b o q)
    have ob : ObjOk X.prog X.w (upd H1 d (.xd [(("at" : Str), v)])) G' d (.xd [(("at" : Str), v)]) :=
      ⟨_, hns.at (fun o q => (gk d M.dne).trans q), fun f => relO_BadText rv f⟩
    have J : Inv X pins σ (upd H1 d (.xd [(("at" : Str), v)])) ⟨G', g, dr, tk', os⟩ := I1.laid (t' := tk') old M.dbig ob
    refine ⟨e, oe, fv, ⟨G', g, dr, tk', os⟩, _, .ref C, some d, rfl, J, fun b o q => ?_, ge, hoe, ⟨hc, hd⟩, hdat, h1, ?_, rfl, I1.bare, raises_own T.exC T.tyC, q1 d (I1.hok.fresh M.dbig)⟩
    · by_cases hb : b = e
      · have q' : G'.get? b = some o := q
        rw [hb, ge] at q'; cases q'
      · exact (gk b hb).symm.trans q
    · rw [upd_ne (Ne.symm M.dne)]
      exact I1.hok.fresh M.new
end
end L2
namespace VL
open PySem PySem.Spec PyProof.Rows L2
theorem mk_BadText {K : PySem.W.Frag} {mg : Str → Option Value} {C fI : Addr} (T : PySem.BadTextX.BadTextTxt K mg C fI) : Mk1Ok K mg "BadText" "at" C := by
  intro X e ta p pos k hK hm hr hg he hpl ha
  subst hK hm
  exact pmk_BadText T hr ha hg he hpl
end VL

namespace KR
open PySem PySem.Spec PyProof.Rows L2 VL
set_option hygiene false
local macro_rules | `(tactic| decreasing_trivial) => `(tactic| dsimp only [x_aNil, x_aCons, x_rOp, x_rOu, x_rVar, x_rC, x_rT, x_rTand, x_rTor, x_rTnot, x_rAnd, x_rOr, x_rNot, x_rIf, x_rOt, x_rNewD, x_rSlLU, x_rSlL, x_rSlU, x_rChain, x_sNil, x_sSeq, x_sBreak, x_sCont, x_sExpr, x_sRet, x_sRetN, x_sIf, x_sSet, x_rMv, x_rFz, x_rMt, x_rMr, x_sSetL, x_rCall, x_bName, x_bTup, x_rSeq, x_rRange1, x_rRange2, x_sFor, x_rLc, x_rYes, x_rIsi1, x_rM0, x_rM1, x_aLate, x_sPar, x_sAug, x_tt, x_ff, x_bNames0, x_bNames1, x_lcT, x_wipe0, x_wipe1, x_AN_of_nx, x_AN_of_rt, x_AN_of_ex, x_seq_nx, x_seq_rt, x_seq_bk, x_seq_ct, x_seq_ex, x_loop_nx, x_loop_rt, x_loop_bk, x_loop_ct, x_loop_ex, x_grd_p, x_grd_ow, x_grd_sl, x_grd_vw, x_vwO_p, x_vwO_ls, x_vwO_lo, x_vwO_dc, x_vwO_dco, x_vwO_ins, x_vwO_fl, x_datL0, x_datL1, x_dat_p, x_dat_sl, x_dat_vw, x_dat_ow, x_sh_p, x_sh_ls, x_sh_dc, x_datu_p, x_datu_ls, x_datu_dc, x_datu_fl, x_datu_vw, x_datu_ow, x_takes0, x_takes_p, x_takes_ow, x_map_some, x_frz_p, x_frz_ls, x_frz_dc, x_take1_p, x_take1_ow, x_own1_p, x_own1_ow, x_slots_p, x_slots_sl, x_slots_ow, x_vwp_sl, x_vwp_vw, x_toO_p, x_toO_sl, x_toO_ow, x_wb_sl, x_wb_p, x_wb_ow, x_wb0, x_wb00, x_seqM_list, x_seqM_tuple, x_seqM_str, x_isI, x_all, x_any, x_join_l, x_join_t, x_add_i, x_add_s, x_add_l, x_add_t, x_sub, x_mod, x_div, x_pow, x_mul_i, x_mul_s, x_neg, x_cmp, x_eq, x_eq_s, x_eq_i, x_eq_b, x_eq_n, x_eq_ns, x_eq_sn, x_eq_is, x_eq_si, x_eq_ll, x_eq_t2, x_isN_n, x_isN_i, x_isN_s, x_isN_l, x_isN_t, x_in_s, x_in_sl, x_in_il, x_in_tl, x_in_st, x_in_it, x_len_s, x_len_l, x_len_t, x_ix_l, x_ix_t, x_ix_s, x_tup, x_lst, x_sl_s, x_sl_l, x_sl_t, x_append, x_extend, x_max_i, x_max_l, x_min, x_int_i, x_int_b, x_listOf_l, x_listOf_t, x_tupOf_l, x_tupOf_t, x_repr_i, x_repr_l, x_repr_t, x_map0, x_map1, x_app0, x_app1, x_set0, x_setS, x_get0, x_getS, x_Tr_num, x_Tr_cel, x_Tr_inn, x_Tr_op, x_forW0, x_forW1, x_lcW0, x_lcW1, x_drop1, x_drop0, x_dropn, x_take1s, x_take0, x_taken, x_ty_l, x_ty_t, x_ty_i, x_ty_b, x_ty_s, x_ty_d, x_rDisp, x_rDispN, x_sSetD, x_rGet2, x_rEnum, x_ixX_ds, x_ixX_di, x_ixX_l, x_ixX_t, x_ixX_s, x_inX_ds, x_inX_di, x_inX_s, x_inX_sl, x_inX_il, x_inX_tl, x_inX_st, x_inX_it, x_lenX_d, x_lenX_s, x_lenX_l, x_lenX_t, x_mulY_t, x_mulY_i, x_mulY_s, x_kD_i, x_kD_s, x_kP_i, x_kP_s, x_zip1, x_zip0, x_mClear, x_mReverse, x_enum0, x_scene_map, x_scene_len, x_Row_set, x_Row_tell, x_Row_ifr, x_Row_whl, x_Row_tms, x_bod_set, x_bod_tell, x_bod_ifr, x_bod_whl, x_bod_tms, x_enum1, x_enum2, x_wayO_some, x_wayO_none, x_i01, x_i11, x_sRaise1, x_sRaise0, x_sTry, x_rIs, x_rFld, x_rIsTu, x_tr_nx, x_tr_rt, x_tr_bk, x_tr_ct, x_tr_ex, x_su_nx, x_su_rt, x_su_bk, x_su_ct, x_isB, x_rp, x_held0, x_heldS, x_sUnp, x_sUnl, x_rRm, x_cnt, x_idx, x_sidx, x_tyOk_l, x_tyOk_s, x_tyOk_d, x_nc0, x_nc1, x_nc2, x_nc3, x_nc4, x_nc5, x_nc6, x_nc7, x_nc8, x_nc9, x_rRev, x_rZip, x_rsl0, x_rsl1, x_intX_s, x_intX_i, x_intX_b, x_strX_s, x_strX_i, List.map_nil, List.map_cons, List.cons_append, List.nil_append, List.append_nil, List.replicate_succ, List.replicate_zero, List.length_cons, List.length_nil, List.contains, List.elem, Nat.reduceBEq, Nat.reduceAdd, Nat.reduceSub, List.all_nil, List.all_cons, Int.reduceNeg, Int.reduceSub, Int.reduceAdd, id])
local macro_rules | `(tactic| trivial) => `(tactic| repeat (any_goals (first | ((with_reducible refine And.intro ?sd ?_); (case sd => (first | exact rfl | omega | assumption | (simp only [List.length_map, List.length_append, List.length_cons, List.length_nil, List.length_set, List.length_take, List.length_drop, List.length_range, List.length_reverse]; omega) | exact small (by omega) | exact cut_le (by omega) | exact sl_add (by first | omega | decide +kernel | exact cut_le (by omega) | exact up_le (by omega) | exact up_le (cut_le (by omega)) | exact app_le (by exact up_le4 (cut_le (by omega))) (by exact cut_le (by omega)) | exact app_le (by decide) (by omega) | exact app_le (by first | omega | exact cut_le (by omega)) (by first | omega | exact cut_le (by omega))) (by first | omega | decide +kernel | exact cut_le (by omega) | exact up_le (by omega) | exact up_le (cut_le (by omega)) | exact app_le (by exact up_le4 (cut_le (by omega))) (by exact cut_le (by omega)) | exact app_le (by decide) (by omega) | exact app_le (by first | omega | exact cut_le (by omega)) (by first | omega | exact cut_le (by omega))) | exact ⟨by omega, by omega⟩ | exact Or.inr ⟨by decide, by decide⟩ | exact Or.inl ⟨by omega, by omega⟩ | exact Or.inl ⟨by decide, by decide⟩ | exact ⟨by decide, by decide, by decide⟩ | exact small (by simp only [List.length_map, List.length_append, List.length_cons, List.length_nil, List.length_set, List.length_take, List.length_drop, List.length_range, List.length_reverse]; omega) | exact log_ok (by omega) (by omega) | (split <;> omega) | exact small (by rw [rowsD_len]; have := RowsIn.rlen (by assumption); omega) | exact small (by simp only [List.length_append, List.length_cons, List.length_nil, rowsD_len]; omega) | exact Nat.lt_of_lt_of_le (by simp only [List.length_append, List.length_cons, List.length_nil, rowsD_len, List.length_map]; omega : _ < 100000) (by decide) | rfl | decide))) | ((with_reducible refine' Exists.intro _ (And.intro put_scene ?_)); try decreasing_trivial) | ((with_reducible show sp_law_take _ _ _); (first | refine ⟨_, _, _, rfl, by decide, by decide, fun r a b r0 r1 => ?_⟩ | refine ⟨_, _, _, rfl, by omega, by omega, fun r a b r0 r1 => ?_⟩ | (refine ⟨_, _, _, rfl, by simp only [List.length_map]; omega, by simp only [List.length_map]; omega, fun r a b r0 r1 => ?_⟩; simp only [List.length_map] at r1)); try decreasing_trivial) | ((with_reducible show sp_law_feed _ _ _); (refine ⟨_, _, rfl, by omega, by omega, by omega, fun fa fb => ?_⟩); try decreasing_trivial) | ((with_reducible show sp_parts _ _ _ _); (refine ⟨_, rfl, by assumption, by assumption, ?_⟩); try decreasing_trivial) | ((with_reducible show sp_deep _ _ _ _); (refine ⟨_, rfl, by assumption, ?_⟩); try decreasing_trivial) | ((with_reducible show sp_cells _ _ _ _); (refine ⟨_, rfl, by assumption, by assumption, ?_⟩); try decreasing_trivial) | ((with_reducible show sp_law_number _ _ _); (refine ⟨_, _, rfl, fun nv a b n0 n1 => ?_⟩); try decreasing_trivial) | ((with_reducible show sp_law_names _ _ _); (refine ⟨_, _, _, rfl, by omega, by omega, fun ws a b wl wn => ?_⟩); try decreasing_trivial) | ((with_reducible show sp_law_scene _ _ _); (refine ⟨_, _, rfl, fun cs ms a b sc => ?_⟩); try decreasing_trivial) | ((with_reducible show sp_law_mark _ _ _); (refine ⟨_, _, _, rfl, by omega, by omega, by omega, fun m me => ?_⟩); try decreasing_trivial) | ((with_reducible show sp_law_term _ _ _ _); (refine ⟨_, _, _, _, _, _, _, rfl, by omega, by omega, by omega, by omega, by omega, by omega, fun t a b t1 t2 t3 => ?_⟩); try decreasing_trivial) | ((with_reducible show sp_law_row _ _ _ _); (refine ⟨_, _, _, _, _, _, _, rfl, by assumption, by omega, by omega, by omega, by omega, by omega, fun rw a b u l l0 ul ri uu => ?_⟩); try decreasing_trivial) | ((with_reducible show sp_law_body _ _ _ _); (refine ⟨_, _, _, _, _, _, _, rfl, by assumption, by omega, by omega, by omega, by omega, by omega, fun bd a b u l l0 ul ri uu une => ?_⟩); try decreasing_trivial) | ((with_reducible show sp_law_program _ _ _); (refine ⟨_, _, _, _, _, rfl, by assumption, by omega, by omega, fun pr a b u u0 u1 ri pne => ?_⟩); try decreasing_trivial) | ((with_reducible show sp_bodies_in _ _ _); (first | refine ⟨.set _ _ _, rfl, ?_⟩ | refine ⟨.tell _ _, rfl, ?_⟩ | refine ⟨.ifr _ _ _ _, rfl, ?_⟩ | (refine ⟨.whl _ _ _, by exact rfl, ?_⟩) | refine ⟨.tms _ _ _, rfl, ?_⟩ | refine ⟨_, rfl, ?_⟩); try decreasing_trivial) | ((with_reducible show sp_law_bodies _ _ _); (first | refine ⟨.set _ _ _, rfl, ?_⟩ | refine ⟨.tell _ _, rfl, ?_⟩ | refine ⟨.ifr _ _ _ _, rfl, ?_⟩ | (refine ⟨.whl _ _ _, by exact rfl, ?_⟩) | refine ⟨.tms _ _ _, rfl, ?_⟩ | refine ⟨_, rfl, ?_⟩); try decreasing_trivial) | ((with_reducible show sp_rows _ _ _ _); (refine ⟨_, rfl, by omega, by omega, ?_⟩); try decreasing_trivial) | ((with_reducible show sp_marks _ _ _ _); (refine ⟨_, rfl, by omega, by omega, ?_⟩); try decreasing_trivial) | ((with_reducible show sp_way_to _ _ _ _); (refine ⟨_, _, rfl, by omega, by omega, ?_⟩; (try simp only [ha]); (try simp only [hb])); try decreasing_trivial) | ((with_reducible show sp_spot _ _ _ _); (refine ⟨_, _, _, rfl, by assumption, by omega, by omega, ?_⟩; (try rw [esp])); try decreasing_trivial) | ((with_reducible show sp_loops _ _ _ _); (refine ⟨_, _, _, rfl, by assumption, by omega, by omega, ?_⟩); try decreasing_trivial) | ((with_reducible show sp_need_text er _ _ _); (refine ⟨_, _, rfl, fun q => ?_, fun q => ?_⟩); try decreasing_trivial) | ((with_reducible show sp_is_name _ _ _); (refine ⟨_, rfl, by omega, ?_⟩); try decreasing_trivial) | ((with_reducible show sp_is_number _ _ _); (refine ⟨_, rfl, by omega, ?_⟩); try decreasing_trivial) | ((with_reducible show sp_leaf_of er _ _ _); (refine ⟨_, _, _, rfl, by first | omega | (simp only [mkS_len]; omega), by first | exact mkS_l _ | rfl, fun t ht => ?_, fun ht => ?_⟩); try decreasing_trivial) | ((with_reducible show sp_term_at er _ _ _ _); (refine ⟨_, _, _, _, rfl, by omega, by omega, by omega, by first | assumption | rfl, by omega, fun t l ht => ?_, fun ht => ?_⟩); try decreasing_trivial) | ((with_reducible show sp_whole_term er _ _ _); (refine ⟨_, _, rfl, by omega, by omega, fun t ht => ?_, fun ht => ?_⟩); try decreasing_trivial) | ((with_reducible show sp_read_term er _ _ _); (refine ⟨_, rfl, by omega, by omega, fun t ht => ?_, fun ht => ?_⟩); try decreasing_trivial) | ((with_reducible show sp_term_text _ _ _ _); (refine ⟨_, rfl, by first | assumption | omega, by assumption, by omega, ?_⟩); try decreasing_trivial) | ((with_reducible show sp_law_term_text _ _ _ _); (refine ⟨_, rfl, by first | assumption | omega, by assumption, by omega, ?_⟩); try decreasing_trivial) | ((with_reducible show sp_law_kept _ _ _); (refine ⟨rfl, ?_⟩); try decreasing_trivial) | ((with_reducible show sp_law_word _ _ _); (refine ⟨_, _, rfl, fun wd a b wx => ?_⟩); try decreasing_trivial) | ((with_reducible show sp_law_any_term _ _ _ _); (first | refine ⟨_, _, _, _, _, rfl, by assumption, by assumption, by omega, by omega, by omega, by omega, fun t a b t1 t2 t3 => ?_⟩ | refine ⟨_, _, [_, _], _, _, rfl, by decide, by decide, by omega, by omega, by omega, by omega, fun t a b t1 t2 t3 => ?_⟩ | refine ⟨_, _, _, _, _, rfl, by assumption, by assumption, by omega, by omega, by omega, by omega, fun t a b t1 t2 t3 => ?_⟩ | refine ⟨_, _, _, _, _, rfl, by omega, by omega, by omega, by omega, by omega, by omega, fun t a b t1 t2 t3 => ?_⟩); try decreasing_trivial) | ((with_reducible show sp_law_alike _ _ _ _); (refine ⟨_, _, rfl, by assumption, by omega, ?_⟩); try decreasing_trivial) | ((with_reducible refine px_0 ?sd ?_); (case sd => (first | omega | (simp only [List.length_map, List.length_append, List.length_cons, List.length_nil, List.length_set, List.length_take, List.length_drop, List.length_range, List.length_reverse]; omega))); try decreasing_trivial) | ((with_reducible refine px_1 ?sd ?_); (case sd => (first | omega | (simp only [List.length_map, List.length_append, List.length_cons, List.length_nil, List.length_set, List.length_take, List.length_drop, List.length_range, List.length_reverse]; omega))); try decreasing_trivial) | ((with_reducible refine px_2 ?sd ?_); (case sd => (first | omega | (simp only [List.length_map, List.length_append, List.length_cons, List.length_nil, List.length_set, List.length_take, List.length_drop, List.length_range, List.length_reverse]; omega))); try decreasing_trivial) | ((with_reducible refine px_3 ?sd ?_); (case sd => (first | omega | (simp only [List.length_map, List.length_append, List.length_cons, List.length_nil, List.length_set, List.length_take, List.length_drop, List.length_range, List.length_reverse]; omega))); try decreasing_trivial) | ((with_reducible refine px_m1 ?sd ?_); (case sd => (first | omega | (simp only [List.length_map, List.length_append, List.length_cons, List.length_nil, List.length_set, List.length_take, List.length_drop, List.length_range, List.length_reverse]; omega))); try decreasing_trivial) | ((with_reducible refine px_i ?s1 ?s2 ?_); (case s1 => (first | omega | (simp only [List.length_map, List.length_append, List.length_cons, List.length_nil, List.length_set, List.length_take, List.length_drop, List.length_range, List.length_reverse]; omega))); (case s2 => (first | omega | (simp only [List.length_map, List.length_append, List.length_cons, List.length_nil, List.length_set, List.length_take, List.length_drop, List.length_range, List.length_reverse]; omega))); try decreasing_trivial) | ((with_reducible refine' ix_0 ?sd ?_); (case sd => exact rfl); try decreasing_trivial) | ((with_reducible refine' ix_1 ?sd ?_); (case sd => exact rfl); try decreasing_trivial) | ((with_reducible refine' ix_2 ?sd ?_); (case sd => exact rfl); try decreasing_trivial) | ((with_reducible refine' ix_3 ?sd ?_); (case sd => exact rfl); try decreasing_trivial) | ((with_reducible refine' ix_4 ?sd ?_); (case sd => exact rfl); try decreasing_trivial) | ((with_reducible refine' ix_5 ?sd ?_); (case sd => exact rfl); try decreasing_trivial) | ((with_reducible refine' ix_m1 ?sd ?_); (case sd => exact rfl); try decreasing_trivial) | ((with_reducible refine' ix_m2 ?sd ?_); (case sd => exact rfl); try decreasing_trivial) | (((rw [rqa])); try decreasing_trivial) | (((rw [rqb])); try decreasing_trivial) | (((rw [ewn])); try decreasing_trivial) | (((with_reducible refine' Exists.intro _ (And.intro rea ?_))); try decreasing_trivial) | (((with_reducible refine ix_am1 ?_)); try decreasing_trivial) | (((with_reducible refine ix_am2 ?_)); try decreasing_trivial) | ((((with_reducible refine ix_map ?s1 ?s2 (fun x mx me => ?_)); (case s1 => (first | omega | (simp only [List.length_map]; omega) | (simp only [List.length_map]; exact Int.emod_nonneg _ (by omega)) | (simp only [List.length_map]; exact Int.emod_lt_of_pos _ (by omega)))); (case s2 => (first | omega | (simp only [List.length_map]; omega) | (simp only [List.length_map]; exact Int.emod_nonneg _ (by omega)) | (simp only [List.length_map]; exact Int.emod_lt_of_pos _ (by omega)))))); try decreasing_trivial) | ((((with_reducible refine ix_lett ?s1 ?s2 ?_); (case s1 => omega); (case s2 => omega))); try decreasing_trivial) | ((((with_reducible refine ix_sgnM (m := 6) ?s0 ?s1 ?s2 (fun v mv => ?_)); (case s0 => decide +kernel); (case s1 => omega); (case s2 => omega))); try decreasing_trivial) | ((((with_reducible refine ix_sgnM (m := 7) ?s0 ?s1 ?s2 (fun v mv => ?_)); (case s0 => decide +kernel); (case s1 => omega); (case s2 => omega))); try decreasing_trivial) | ((((with_reducible refine ix_i2 ?s1 ?s2 (fun v vi => ?_)); (case s1 => omega); (case s2 => omega))); try decreasing_trivial) | ((((with_reducible refine ix_i3 ?s1 ?s2 (fun v vi => ?_)); (case s1 => omega); (case s2 => omega))); try decreasing_trivial) | ((((with_reducible refine ix_i6 ?s1 ?s2 (fun v vi => ?_)); (case s1 => omega); (case s2 => omega))); try decreasing_trivial) | ((((with_reducible refine ix_cons ?s1 (fun ei => ?_) (fun ei => ?_)); (case s1 => omega))); try decreasing_trivial) | ((((with_reducible refine ix_nil ?s1); (case s1 => omega))); try decreasing_trivial) | ((((with_reducible refine ix_let2 ?s1 ?s2 ?_); (case s1 => omega); (case s2 => omega))); try decreasing_trivial) | ((with_reducible refine' Exists.intro _ (And.intro ?sd ?_)); (case sd => exact rfl); try decreasing_trivial) | ((with_reducible refine iteB (fun c => ?_) (fun c => ?_)) <;> (try simp only [decide_eq_true_eq, decide_eq_false_iff_not, Bool.not_eq_true', Bool.not_eq_false', id, List.length_map, eqv_int, eqv_str, List.any_cons, List.any_nil, Bool.or_eq_true, Bool.or_false, Bool.or_eq_false_iff] at c) <;> (try exact absurd c (by assumption)) <;> (try exact absurd (by assumption) c) <;> (try exact absurd c (by decide +kernel)) <;> (try exact absurd (c.symm.trans (show _ = true by assumption)) (by decide)) <;> (try exact absurd (c.symm.trans (show _ = false by assumption)) (by decide)) <;> (try decreasing_trivial)) | ((with_reducible refine' Exists.intro _ (And.intro kit_bb ?_)); try decreasing_trivial) | ((with_reducible refine' Exists.intro _ (And.intro kit_ll ?_)); try decreasing_trivial) | ((with_reducible refine' Exists.intro _ (And.intro kit_tt ?_)); try decreasing_trivial) | ((with_reducible refine' Exists.intro _ (And.intro kit_dd ?_)); try decreasing_trivial) | ((with_reducible refine' Exists.intro _ (And.intro kit_ii ?_)); try decreasing_trivial) | ((with_reducible refine' Exists.intro _ (And.intro kit_ss ?_)); try decreasing_trivial) | ((with_reducible refine' Exists.intro _ (And.intro kit_ib ?_)); try decreasing_trivial) | ((with_reducible refine' Exists.intro _ (And.intro kit_bi ?_)); try decreasing_trivial) | ((with_reducible refine dv_hit ?sd ?_); (case sd => first | exact rfl | decide +kernel); try decreasing_trivial) | ((with_reducible refine dv_miss ?sd ?_); (case sd => decide +kernel); try decreasing_trivial) | ((first | rw [inx_set] | rw [inx_tell] | rw [inx_ifr] | rw [inx_whl] | rw [inx_tms]); try decreasing_trivial) | ((first | rw [cut_lo1] | rw [cut_hi1] | rw [cut_lo2] | rw [cut_hi2] | rw [cut_lo3] | rw [cut_hi3] | rw [cut_lo4] | rw [cut_hi4] | rw [cut_lo5] | rw [cut_hi5] | rw [cut_lo6] | rw [cut_hi6]); try decreasing_trivial))))
def top (i : Nat) : Stmt := PySem.Challenge.pw_twomeant_k06_terms_written_and_read.main.body.getD i (.Pass ⟨0, 0, 0, 0⟩)
section
variable {P : Program} {w : World} {K : PySem.W.Frag} {mg : Str → Option Value} {base : Heap} {fa : Addr} {fd : FuncData}
abbrev s_law_take : Stmt := top 22
abbrev n_law_take : List Str := ["_law_feed_here", "_law_many", "_law_one", "_law_digit"]
theorem sc_law_take : FnScope n_law_take ["_law_feed_here", "_law_many"] (defScope s_law_take) := ⟨rfl, rfl, rfl, by decide +kernel, rfl, by decide +kernel, by decide +kernel⟩
theorem ok_law_take (F : Fun K "_law_take" "_law_take" s_law_take fa fd)  :
    FnV P w K mg base 1 fa fd ["_law_feed_here", "_law_many"] [0] sp_law_take := by
  refine FnV.of F sc_law_take (fun os k kx h => by obtain ⟨a, b, m, rfl, _⟩ := h; rfl) fun cdv A outer s H E hg hr => ⟨_, _, (js_cons (js_if (jt_cmp op_gt ok_cmpI (nomark _) (je_ix (ix_X (u1 hr)) ok_ixX (je_var 0) je_int (fun _ _ => rfl)) je_int) (js_cons (js_set (i := 3) rfl sc_law_take.nd rfl (Or.inl rfl) (je_bin op_mod ok_mod (je_ix (ix_X (u1 hr)) ok_ixX (je_var 0) je_int (fun _ _ => rfl)) (je_var 1)))
      (js_cons (js_setL 0 (je_bin op_fdiv ok_div (je_ix (ix_X (u1 hr)) ok_ixX (je_var 0) je_int (fun _ _ => rfl)) (je_var 1)) (je_var 0) je_int)
      (js_one (js_ret (je_var 3))))) js_nil)
      (js_cons (js_set (i := 2) rfl sc_law_take.nd rfl (Or.inl rfl) (je_bin op_mod ok_mod (je_bin op_mulY ok_mulY (je_ix (ix_X (u1 hr)) ok_ixX (je_var 0) je_int (fun _ _ => rfl)) je_int) je_int))
      (js_cons (js_setL 0 (je_bin op_addX ok_add (je_bin op_mod ok_mod (je_bin op_addX ok_add (je_bin op_mulY ok_mulY (je_var 2) je_int) je_int) je_int) je_int) (je_var 0) je_int)
      (js_one (js_ret (je_bin op_mod ok_mod (je_bin op_fdiv ok_div (je_bin op_addX ok_add (je_bin op_mulY ok_mulY (je_var 2) je_int) (je_ix (ix_X (u1 hr)) ok_ixX (je_var 0) je_int (fun _ _ => rfl))) je_int) (je_var 1))))))), fun os kk kx h => ?_⟩
  obtain ⟨a, b, m, rfl, h0, h1, k⟩ := h
  try dsimp only [n_law_take, List.length_cons, List.length_nil, Nat.reduceAdd, Nat.reduceSub]
  try decreasing_trivial
  trivial
  all_goals exact k _ _ _ (Int.emod_nonneg _ (by omega)) (Int.emod_lt_of_pos _ h0)
abbrev s_law_feed : Stmt := top 21
abbrev n_law_feed : List Str := ["_law_script", "_law_k", "_law_cell", "_law_own"]
theorem sc_law_feed : FnScope n_law_feed ["_law_script", "_law_k"] (defScope s_law_feed) := ⟨rfl, rfl, rfl, by decide +kernel, rfl, by decide +kernel, by decide +kernel⟩
theorem ok_law_feed (F : Fun K "_law_feed" "_law_feed" s_law_feed fa fd) (z_len : mg "len" = none) :
    FnV P w K mg base 1 fa fd ["_law_script", "_law_k"] [] sp_law_feed := by
  refine FnV.of F sc_law_feed (fun os k kx h => by obtain ⟨ns, i, rfl, _⟩ := h; rfl) fun cdv A outer s H E hg hr => ⟨_, _, (js_cons (js_set (i := 2) rfl sc_law_feed.nd rfl (Or.inl rfl) (je_bin op_addX ok_add (je_bin op_mulY ok_mulY je_int (je_var 1)) je_int))
      (js_cons (js_if (jt_cmp op_lt ok_cmpI (nomark _) (je_var 1) (je_B call_lenX ok_lenX rfl z_len PySem.boot_len (ja_cons (je_var 0) ja_nil))) (js_one (js_set (i := 2) rfl sc_law_feed.nd rfl (Or.inl rfl) (je_ix (ix_X (u1 hr)) ok_ixX (je_var 0) (je_var 1) (fun _ _ => rfl)))) (js_one (js_if (jt_cmp op_gt ok_cmpI (nomark _) (je_B call_lenX ok_lenX rfl z_len PySem.boot_len (ja_cons (je_var 0) ja_nil)) je_int) (js_one (js_set (i := 2) rfl sc_law_feed.nd rfl (Or.inl rfl) (je_bin op_addX ok_add (je_bin op_mulY ok_mulY (je_bin op_mod ok_mod (je_ix (ix_X (u1 hr)) ok_ixX (je_var 0) (je_bin op_mod ok_mod (je_var 1) (je_B call_lenX ok_lenX rfl z_len PySem.boot_len (ja_cons (je_var 0) ja_nil))) (fun _ _ => rfl)) je_int) je_int) (je_bin op_mulY ok_mulY je_int (je_var 1))))) js_nil)))
      (js_cons (js_set (i := 3) rfl sc_law_feed.nd rfl (Or.inl rfl) je_int)
      (js_cons (js_if (jt_cmp op_ge ok_cmpI (nomark _) (je_var 2) (je_bin op_pow ok_pow je_int je_int)) (js_one (js_set (i := 3) rfl sc_law_feed.nd rfl (Or.inl rfl) (je_var 2))) js_nil)
      (js_one (js_ret (je_lst (ja_cons (je_var 3) (ja_cons (je_bin op_addX ok_add (je_bin op_mod ok_mod (je_bin op_addX ok_add (je_bin op_mulY ok_mulY (je_bin op_mod ok_mod (je_var 2) je_int) je_int) (je_bin op_mulY ok_mulY je_int (je_var 1))) je_int) je_int) ja_nil))))))))), fun os kk kx h => ?_⟩
  obtain ⟨ns, i, rfl, h0, h1, h2, k⟩ := h
  try dsimp only [n_law_feed, List.length_cons, List.length_nil, Nat.reduceAdd, Nat.reduceSub]
  try decreasing_trivial
  trivial
  all_goals exact k _ _
end
end KR

namespace KR
open PySem PySem.Spec PyProof.Rows L2 VL
set_option hygiene false
local macro_rules | `(tactic| decreasing_trivial) => `(tactic| dsimp only [x_aNil, x_aCons, x_rOp, x_rOu, x_rVar, x_rC, x_rT, x_rTand, x_rTor, x_rTnot, x_rAnd, x_rOr, x_rNot, x_rIf, x_rOt, x_rNewD, x_rSlLU, x_rSlL, x_rSlU, x_rChain, x_sNil, x_sSeq, x_sBreak, x_sCont, x_sExpr, x_sRet, x_sRetN, x_sIf, x_sSet, x_rMv, x_rFz, x_rMt, x_rMr, x_sSetL, x_rCall, x_bName, x_bTup, x_rSeq, x_rRange1, x_rRange2, x_sFor, x_rLc, x_rYes, x_rIsi1, x_rM0, x_rM1, x_aLate, x_sPar, x_sAug, x_tt, x_ff, x_bNames0, x_bNames1, x_lcT, x_wipe0, x_wipe1, x_AN_of_nx, x_AN_of_rt, x_AN_of_ex, x_seq_nx, x_seq_rt, x_seq_bk, x_seq_ct, x_seq_ex, x_loop_nx, x_loop_rt, x_loop_bk, x_loop_ct, x_loop_ex, x_grd_p, x_grd_ow, x_grd_sl, x_grd_vw, x_vwO_p, x_vwO_ls, x_vwO_lo, x_vwO_dc, x_vwO_dco, x_vwO_ins, x_vwO_fl, x_datL0, x_datL1, x_dat_p, x_dat_sl, x_dat_vw, x_dat_ow, x_sh_p, x_sh_ls, x_sh_dc, x_datu_p, x_datu_ls, x_datu_dc, x_datu_fl, x_datu_vw, x_datu_ow, x_takes0, x_takes_p, x_takes_ow, x_map_some, x_frz_p, x_frz_ls, x_frz_dc, x_take1_p, x_take1_ow, x_own1_p, x_own1_ow, x_slots_p, x_slots_sl, x_slots_ow, x_vwp_sl, x_vwp_vw, x_toO_p, x_toO_sl, x_toO_ow, x_wb_sl, x_wb_p, x_wb_ow, x_wb0, x_wb00, x_seqM_list, x_seqM_tuple, x_seqM_str, x_isI, x_all, x_any, x_join_l, x_join_t, x_add_i, x_add_s, x_add_l, x_add_t, x_sub, x_mod, x_div, x_pow, x_mul_i, x_mul_s, x_neg, x_cmp, x_eq, x_eq_s, x_eq_i, x_eq_b, x_eq_n, x_eq_ns, x_eq_sn, x_eq_is, x_eq_si, x_eq_ll, x_eq_t2, x_isN_n, x_isN_i, x_isN_s, x_isN_l, x_isN_t, x_in_s, x_in_sl, x_in_il, x_in_tl, x_in_st, x_in_it, x_len_s, x_len_l, x_len_t, x_ix_l, x_ix_t, x_ix_s, x_tup, x_lst, x_sl_s, x_sl_l, x_sl_t, x_append, x_extend, x_max_i, x_max_l, x_min, x_int_i, x_int_b, x_listOf_l, x_listOf_t, x_tupOf_l, x_tupOf_t, x_repr_i, x_repr_l, x_repr_t, x_map0, x_map1, x_app0, x_app1, x_set0, x_setS, x_get0, x_getS, x_Tr_num, x_Tr_cel, x_Tr_inn, x_Tr_op, x_forW0, x_forW1, x_lcW0, x_lcW1, x_drop1, x_drop0, x_dropn, x_take1s, x_take0, x_taken, x_ty_l, x_ty_t, x_ty_i, x_ty_b, x_ty_s, x_ty_d, x_rDisp, x_rDispN, x_sSetD, x_rGet2, x_rEnum, x_ixX_ds, x_ixX_di, x_ixX_l, x_ixX_t, x_ixX_s, x_inX_ds, x_inX_di, x_inX_s, x_inX_sl, x_inX_il, x_inX_tl, x_inX_st, x_inX_it, x_lenX_d, x_lenX_s, x_lenX_l, x_lenX_t, x_mulY_t, x_mulY_i, x_mulY_s, x_kD_i, x_kD_s, x_kP_i, x_kP_s, x_zip1, x_zip0, x_mClear, x_mReverse, x_enum0, x_scene_map, x_scene_len, x_Row_set, x_Row_tell, x_Row_ifr, x_Row_whl, x_Row_tms, x_bod_set, x_bod_tell, x_bod_ifr, x_bod_whl, x_bod_tms, x_enum1, x_enum2, x_wayO_some, x_wayO_none, x_i01, x_i11, x_sRaise1, x_sRaise0, x_sTry, x_rIs, x_rFld, x_rIsTu, x_tr_nx, x_tr_rt, x_tr_bk, x_tr_ct, x_tr_ex, x_su_nx, x_su_rt, x_su_bk, x_su_ct, x_isB, x_rp, x_held0, x_heldS, x_sUnp, x_sUnl, x_rRm, x_cnt, x_idx, x_sidx, x_tyOk_l, x_tyOk_s, x_tyOk_d, x_nc0, x_nc1, x_nc2, x_nc3, x_nc4, x_nc5, x_nc6, x_nc7, x_nc8, x_nc9, x_rRev, x_rZip, x_rsl0, x_rsl1, x_intX_s, x_intX_i, x_intX_b, x_strX_s, x_strX_i, List.map_nil, List.map_cons, List.cons_append, List.nil_append, List.append_nil, List.replicate_succ, List.replicate_zero, List.length_cons, List.length_nil, List.contains, List.elem, Nat.reduceBEq, Nat.reduceAdd, Nat.reduceSub, List.all_nil, List.all_cons, Int.reduceNeg, Int.reduceSub, Int.reduceAdd, id])
local macro_rules | `(tactic| trivial) => `(tactic| repeat (any_goals (first | ((with_reducible refine And.intro ?sd ?_); (case sd => (first | exact rfl | omega | assumption | (simp only [List.length_map, List.length_append, List.length_cons, List.length_nil, List.length_set, List.length_take, List.length_drop, List.length_range, List.length_reverse]; omega) | exact small (by omega) | exact cut_le (by omega) | exact sl_add (by first | omega | decide +kernel | exact cut_le (by omega) | exact up_le (by omega) | exact up_le (cut_le (by omega)) | exact app_le (by exact up_le4 (cut_le (by omega))) (by exact cut_le (by omega)) | exact app_le (by decide) (by omega) | exact app_le (by first | omega | exact cut_le (by omega)) (by first | omega | exact cut_le (by omega))) (by first | omega | decide +kernel | exact cut_le (by omega) | exact up_le (by omega) | exact up_le (cut_le (by omega)) | exact app_le (by exact up_le4 (cut_le (by omega))) (by exact cut_le (by omega)) | exact app_le (by decide) (by omega) | exact app_le (by first | omega | exact cut_le (by omega)) (by first | omega | exact cut_le (by omega))) | exact ⟨by omega, by omega⟩ | exact Or.inr ⟨by decide, by decide⟩ | exact Or.inl ⟨by omega, by omega⟩ | exact Or.inl ⟨by decide, by decide⟩ | exact ⟨by decide, by decide, by decide⟩ | exact small (by simp only [List.length_map, List.length_append, List.length_cons, List.length_nil, List.length_set, List.length_take, List.length_drop, List.length_range, List.length_reverse]; omega) | exact log_ok (by omega) (by omega) | (split <;> omega) | exact small (by rw [rowsD_len]; have := RowsIn.rlen (by assumption); omega) | exact small (by simp only [List.length_append, List.length_cons, List.length_nil, rowsD_len]; omega) | exact Nat.lt_of_lt_of_le (by simp only [List.length_append, List.length_cons, List.length_nil, rowsD_len, List.length_map]; omega : _ < 100000) (by decide) | rfl | decide))) | ((with_reducible refine' Exists.intro _ (And.intro put_scene ?_)); try decreasing_trivial) | ((with_reducible show sp_law_take _ _ _); (first | refine ⟨_, _, _, rfl, by decide, by decide, fun r a b r0 r1 => ?_⟩ | refine ⟨_, _, _, rfl, by omega, by omega, fun r a b r0 r1 => ?_⟩ | (refine ⟨_, _, _, rfl, by simp only [List.length_map]; omega, by simp only [List.length_map]; omega, fun r a b r0 r1 => ?_⟩; simp only [List.length_map] at r1)); try decreasing_trivial) | ((with_reducible show sp_law_feed _ _ _); (refine ⟨_, _, rfl, by omega, by omega, by omega, fun fa fb => ?_⟩); try decreasing_trivial) | ((with_reducible show sp_parts _ _ _ _); (refine ⟨_, rfl, by assumption, by assumption, ?_⟩); try decreasing_trivial) | ((with_reducible show sp_deep _ _ _ _); (refine ⟨_, rfl, by assumption, ?_⟩); try decreasing_trivial) | ((with_reducible show sp_cells _ _ _ _); (refine ⟨_, rfl, by assumption, by assumption, ?_⟩); try decreasing_trivial) | ((with_reducible show sp_law_number _ _ _); (refine ⟨_, _, rfl, fun nv a b n0 n1 => ?_⟩); try decreasing_trivial) | ((with_reducible show sp_law_names _ _ _); (refine ⟨_, _, _, rfl, by omega, by omega, fun ws a b wl wn => ?_⟩); try decreasing_trivial) | ((with_reducible show sp_law_scene _ _ _); (refine ⟨_, _, rfl, fun cs ms a b sc => ?_⟩); try decreasing_trivial) | ((with_reducible show sp_law_mark _ _ _); (refine ⟨_, _, _, rfl, by omega, by omega, by omega, fun m me => ?_⟩); try decreasing_trivial) | ((with_reducible show sp_law_term _ _ _ _); (refine ⟨_, _, _, _, _, _, _, rfl, by omega, by omega, by omega, by omega, by omega, by omega, fun t a b t1 t2 t3 => ?_⟩); try decreasing_trivial) | ((with_reducible show sp_law_row _ _ _ _); (refine ⟨_, _, _, _, _, _, _, rfl, by assumption, by omega, by omega, by omega, by omega, by omega, fun rw a b u l l0 ul ri uu => ?_⟩); try decreasing_trivial) | ((with_reducible show sp_law_body _ _ _ _); (refine ⟨_, _, _, _, _, _, _, rfl, by assumption, by omega, by omega, by omega, by omega, by omega, fun bd a b u l l0 ul ri uu une => ?_⟩); try decreasing_trivial) | ((with_reducible show sp_law_program _ _ _); (refine ⟨_, _, _, _, _, rfl, by assumption, by omega, by omega, fun pr a b u u0 u1 ri pne => ?_⟩); try decreasing_trivial) | ((with_reducible show sp_bodies_in _ _ _); (first | refine ⟨.set _ _ _, rfl, ?_⟩ | refine ⟨.tell _ _, rfl, ?_⟩ | refine ⟨.ifr _ _ _ _, rfl, ?_⟩ | (refine ⟨.whl _ _ _, by exact rfl, ?_⟩) | refine ⟨.tms _ _ _, rfl, ?_⟩ | refine ⟨_, rfl, ?_⟩); try decreasing_trivial) | ((with_reducible show sp_law_bodies _ _ _); (first | refine ⟨.set _ _ _, rfl, ?_⟩ | refine ⟨.tell _ _, rfl, ?_⟩ | refine ⟨.ifr _ _ _ _, rfl, ?_⟩ | (refine ⟨.whl _ _ _, by exact rfl, ?_⟩) | refine ⟨.tms _ _ _, rfl, ?_⟩ | refine ⟨_, rfl, ?_⟩); try decreasing_trivial) | ((with_reducible show sp_rows _ _ _ _); (refine ⟨_, rfl, by omega, by omega, ?_⟩); try decreasing_trivial) | ((with_reducible show sp_marks _ _ _ _); (refine ⟨_, rfl, by omega, by omega, ?_⟩); try decreasing_trivial) | ((with_reducible show sp_way_to _ _ _ _); (refine ⟨_, _, rfl, by omega, by omega, ?_⟩; (try simp only [ha]); (try simp only [hb])); try decreasing_trivial) | ((with_reducible show sp_spot _ _ _ _); (refine ⟨_, _, _, rfl, by assumption, by omega, by omega, ?_⟩; (try rw [esp])); try decreasing_trivial) | ((with_reducible show sp_loops _ _ _ _); (refine ⟨_, _, _, rfl, by assumption, by omega, by omega, ?_⟩); try decreasing_trivial) | ((with_reducible show sp_need_text er _ _ _); (refine ⟨_, _, rfl, fun q => ?_, fun q => ?_⟩); try decreasing_trivial) | ((with_reducible show sp_is_name _ _ _); (refine ⟨_, rfl, by omega, ?_⟩); try decreasing_trivial) | ((with_reducible show sp_is_number _ _ _); (refine ⟨_, rfl, by omega, ?_⟩); try decreasing_trivial) | ((with_reducible show sp_leaf_of er _ _ _); (refine ⟨_, _, _, rfl, by first | omega | (simp only [mkS_len]; omega), by first | exact mkS_l _ | rfl, fun t ht => ?_, fun ht => ?_⟩); try decreasing_trivial) | ((with_reducible show sp_term_at er _ _ _ _); (refine ⟨_, _, _, _, rfl, by omega, by omega, by omega, by first | assumption | rfl, by omega, fun t l ht => ?_, fun ht => ?_⟩); try decreasing_trivial) | ((with_reducible show sp_whole_term er _ _ _); (refine ⟨_, _, rfl, by omega, by omega, fun t ht => ?_, fun ht => ?_⟩); try decreasing_trivial) | ((with_reducible show sp_read_term er _ _ _); (refine ⟨_, rfl, by omega, by omega, fun t ht => ?_, fun ht => ?_⟩); try decreasing_trivial) | ((with_reducible show sp_term_text _ _ _ _); (refine ⟨_, rfl, by first | assumption | omega, by assumption, by omega, ?_⟩); try decreasing_trivial) | ((with_reducible show sp_law_term_text _ _ _ _); (refine ⟨_, rfl, by first | assumption | omega, by assumption, by omega, ?_⟩); try decreasing_trivial) | ((with_reducible show sp_law_kept _ _ _); (refine ⟨rfl, ?_⟩); try decreasing_trivial) | ((with_reducible show sp_law_word _ _ _); (refine ⟨_, _, rfl, fun wd a b wx => ?_⟩); try decreasing_trivial) | ((with_reducible show sp_law_any_term _ _ _ _); (first | refine ⟨_, _, _, _, _, rfl, by assumption, by assumption, by omega, by omega, by omega, by omega, fun t a b t1 t2 t3 => ?_⟩ | refine ⟨_, _, [_, _], _, _, rfl, by decide, by decide, by omega, by omega, by omega, by omega, fun t a b t1 t2 t3 => ?_⟩ | refine ⟨_, _, _, _, _, rfl, by assumption, by assumption, by omega, by omega, by omega, by omega, fun t a b t1 t2 t3 => ?_⟩ | refine ⟨_, _, _, _, _, rfl, by omega, by omega, by omega, by omega, by omega, by omega, fun t a b t1 t2 t3 => ?_⟩); try decreasing_trivial) | ((with_reducible show sp_law_alike _ _ _ _); (refine ⟨_, _, rfl, by assumption, by omega, ?_⟩); try decreasing_trivial) | ((with_reducible refine px_0 ?sd ?_); (case sd => (first | omega | (simp only [List.length_map, List.length_append, List.length_cons, List.length_nil, List.length_set, List.length_take, List.length_drop, List.length_range, List.length_reverse]; omega))); try decreasing_trivial) | ((with_reducible refine px_1 ?sd ?_); (case sd => (first | omega | (simp only [List.length_map, List.length_append, List.length_cons, List.length_nil, List.length_set, List.length_take, List.length_drop, List.length_range, List.length_reverse]; omega))); try decreasing_trivial) | ((with_reducible refine px_2 ?sd ?_); (case sd => (first | omega | (simp only [List.length_map, List.length_append, List.length_cons, List.length_nil, List.length_set, List.length_take, List.length_drop, List.length_range, List.length_reverse]; omega))); try decreasing_trivial) | ((with_reducible refine px_3 ?sd ?_); (case sd => (first | omega | (simp only [List.length_map, List.length_append, List.length_cons, List.length_nil, List.length_set, List.length_take, List.length_drop, List.length_range, List.length_reverse]; omega))); try decreasing_trivial) | ((with_reducible refine px_m1 ?sd ?_); (case sd => (first | omega | (simp only [List.length_map, List.length_append, List.length_cons, List.length_nil, List.length_set, List.length_take, List.length_drop, List.length_range, List.length_reverse]; omega))); try decreasing_trivial) | ((with_reducible refine px_i ?s1 ?s2 ?_); (case s1 => (first | omega | (simp only [List.length_map, List.length_append, List.length_cons, List.length_nil, List.length_set, List.length_take, List.length_drop, List.length_range, List.length_reverse]; omega))); (case s2 => (first | omega | (simp only [List.length_map, List.length_append, List.length_cons, List.length_nil, List.length_set, List.length_take, List.length_drop, List.length_range, List.length_reverse]; omega))); try decreasing_trivial) | ((with_reducible refine' ix_0 ?sd ?_); (case sd => exact rfl); try decreasing_trivial) | ((with_reducible refine' ix_1 ?sd ?_); (case sd => exact rfl); try decreasing_trivial) | ((with_reducible refine' ix_2 ?sd ?_); (case sd => exact rfl); try decreasing_trivial) | ((with_reducible refine' ix_3 ?sd ?_); (case sd => exact rfl); try decreasing_trivial) | ((with_reducible refine' ix_4 ?sd ?_); (case sd => exact rfl); try decreasing_trivial) | ((with_reducible refine' ix_5 ?sd ?_); (case sd => exact rfl); try decreasing_trivial) | ((with_reducible refine' ix_m1 ?sd ?_); (case sd => exact rfl); try decreasing_trivial) | ((with_reducible refine' ix_m2 ?sd ?_); (case sd => exact rfl); try decreasing_trivial) | (((rw [rqa])); try decreasing_trivial) | (((rw [rqb])); try decreasing_trivial) | (((rw [ewn])); try decreasing_trivial) | (((with_reducible refine' Exists.intro _ (And.intro rea ?_))); try decreasing_trivial) | (((with_reducible refine ix_am1 ?_)); try decreasing_trivial) | (((with_reducible refine ix_am2 ?_)); try decreasing_trivial) | ((((with_reducible refine ix_map ?s1 ?s2 (fun x mx me => ?_)); (case s1 => (first | omega | (simp only [List.length_map]; omega) | (simp only [List.length_map]; exact Int.emod_nonneg _ (by omega)) | (simp only [List.length_map]; exact Int.emod_lt_of_pos _ (by omega)))); (case s2 => (first | omega | (simp only [List.length_map]; omega) | (simp only [List.length_map]; exact Int.emod_nonneg _ (by omega)) | (simp only [List.length_map]; exact Int.emod_lt_of_pos _ (by omega)))))); try decreasing_trivial) | ((((with_reducible refine ix_lett ?s1 ?s2 ?_); (case s1 => omega); (case s2 => omega))); try decreasing_trivial) | ((((with_reducible refine ix_sgnM (m := 6) ?s0 ?s1 ?s2 (fun v mv => ?_)); (case s0 => decide +kernel); (case s1 => omega); (case s2 => omega))); try decreasing_trivial) | ((((with_reducible refine ix_sgnM (m := 7) ?s0 ?s1 ?s2 (fun v mv => ?_)); (case s0 => decide +kernel); (case s1 => omega); (case s2 => omega))); try decreasing_trivial) | ((((with_reducible refine ix_i2 ?s1 ?s2 (fun v vi => ?_)); (case s1 => omega); (case s2 => omega))); try decreasing_trivial) | ((((with_reducible refine ix_i3 ?s1 ?s2 (fun v vi => ?_)); (case s1 => omega); (case s2 => omega))); try decreasing_trivial) | ((((with_reducible refine ix_i6 ?s1 ?s2 (fun v vi => ?_)); (case s1 => omega); (case s2 => omega))); try decreasing_trivial) | ((((with_reducible refine ix_cons ?s1 (fun ei => ?_) (fun ei => ?_)); (case s1 => omega))); try decreasing_trivial) | ((((with_reducible refine ix_nil ?s1); (case s1 => omega))); try decreasing_trivial) | ((((with_reducible refine ix_let2 ?s1 ?s2 ?_); (case s1 => omega); (case s2 => omega))); try decreasing_trivial) | ((with_reducible refine' Exists.intro _ (And.intro ?sd ?_)); (case sd => exact rfl); try decreasing_trivial) | ((with_reducible refine iteB (fun c => ?_) (fun c => ?_)) <;> (try simp only [decide_eq_true_eq, decide_eq_false_iff_not, Bool.not_eq_true', Bool.not_eq_false', id, List.length_map, eqv_int, eqv_str, List.any_cons, List.any_nil, Bool.or_eq_true, Bool.or_false, Bool.or_eq_false_iff] at c) <;> (try exact absurd c (by assumption)) <;> (try exact absurd (by assumption) c) <;> (try exact absurd c (by decide +kernel)) <;> (try exact absurd (c.symm.trans (show _ = true by assumption)) (by decide)) <;> (try exact absurd (c.symm.trans (show _ = false by assumption)) (by decide)) <;> (try decreasing_trivial)) | ((with_reducible refine' Exists.intro _ (And.intro kit_bb ?_)); try decreasing_trivial) | ((with_reducible refine' Exists.intro _ (And.intro kit_ll ?_)); try decreasing_trivial) | ((with_reducible refine' Exists.intro _ (And.intro kit_tt ?_)); try decreasing_trivial) | ((with_reducible refine' Exists.intro _ (And.intro kit_dd ?_)); try decreasing_trivial) | ((with_reducible refine' Exists.intro _ (And.intro kit_ii ?_)); try decreasing_trivial) | ((with_reducible refine' Exists.intro _ (And.intro kit_ss ?_)); try decreasing_trivial) | ((with_reducible refine' Exists.intro _ (And.intro kit_ib ?_)); try decreasing_trivial) | ((with_reducible refine' Exists.intro _ (And.intro kit_bi ?_)); try decreasing_trivial) | ((with_reducible refine dv_hit ?sd ?_); (case sd => first | exact rfl | decide +kernel); try decreasing_trivial) | ((with_reducible refine dv_miss ?sd ?_); (case sd => decide +kernel); try decreasing_trivial) | ((first | rw [inx_set] | rw [inx_tell] | rw [inx_ifr] | rw [inx_whl] | rw [inx_tms]); try decreasing_trivial) | ((first | rw [cut_lo1] | rw [cut_hi1] | rw [cut_lo2] | rw [cut_hi2] | rw [cut_lo3] | rw [cut_hi3] | rw [cut_lo4] | rw [cut_hi4] | rw [cut_lo5] | rw [cut_hi5] | rw [cut_lo6] | rw [cut_hi6]); try decreasing_trivial))))
section
variable {P : Program} {w : World} {K : PySem.W.Frag} {mg : Str → Option Value} {base : Heap} {fa : Addr} {fd : FuncData}
abbrev s_need_text : Stmt := top 14
abbrev n_need_text : List Str := ["good", "at"]
theorem sc_need_text : FnScope n_need_text ["good", "at"] (defScope s_need_text) := ⟨rfl, rfl, rfl, by decide +kernel, rfl, by decide +kernel, by decide +kernel⟩
theorem ok_need_text {er : PySem.Str → Addr} (EE : Errs K mg er ["BadText"] ["BadText"]) (F : Fun K "need_text" "need_text" s_need_text fa fd)  :
    FnV P w K mg base 1 fa fd ["good", "at"] [] (sp_need_text er) := by
  refine FnV.of F sc_need_text (fun os k kx h => by obtain ⟨b, i, rfl, _⟩ := h; rfl) fun cdv A outer s H E hg hr => ⟨_, _, (js_one (js_if (jt_not (jt_val (je_var 0))) (js_one (js_raiseM rfl (takes_of rfl rfl rfl rfl) hr (EE.mk1 "BadText" (by decide +kernel) _ (by decide +kernel : fldOf "BadText" = some "at")) rfl (je_var 1))) js_nil)), fun os kk kx h => ?_⟩
  obtain ⟨b, i, rfl, k1, k2⟩ := h
  cases b
  ·
    try dsimp only [n_need_text, List.length_cons, List.length_nil, Nat.reduceAdd, Nat.reduceSub]
    try decreasing_trivial
    trivial
    all_goals exact k2 rfl
  ·
    try dsimp only [n_need_text, List.length_cons, List.length_nil, Nat.reduceAdd, Nat.reduceSub]
    try decreasing_trivial
    trivial
    all_goals exact k1 rfl
end
end KR

namespace KR
open PySem PySem.Spec PyProof.Rows L2 VL
set_option hygiene false
local macro_rules | `(tactic| decreasing_trivial) => `(tactic| dsimp only [x_aNil, x_aCons, x_rOp, x_rOu, x_rVar, x_rC, x_rT, x_rTand, x_rTor, x_rTnot, x_rAnd, x_rOr, x_rNot, x_rIf, x_rOt, x_rNewD, x_rSlLU, x_rSlL, x_rSlU, x_rChain, x_sNil, x_sSeq, x_sBreak, x_sCont, x_sExpr, x_sRet, x_sRetN, x_sIf, x_sSet, x_rMv, x_rFz, x_rMt, x_rMr, x_sSetL, x_rCall, x_bName, x_bTup, x_rSeq, x_rRange1, x_rRange2, x_sFor, x_rLc, x_rYes, x_rIsi1, x_rM0, x_rM1, x_aLate, x_sPar, x_sAug, x_tt, x_ff, x_bNames0, x_bNames1, x_lcT, x_wipe0, x_wipe1, x_AN_of_nx, x_AN_of_rt, x_AN_of_ex, x_seq_nx, x_seq_rt, x_seq_bk, x_seq_ct, x_seq_ex, x_loop_nx, x_loop_rt, x_loop_bk, x_loop_ct, x_loop_ex, x_grd_p, x_grd_ow, x_grd_sl, x_grd_vw, x_vwO_p, x_vwO_ls, x_vwO_lo, x_vwO_dc, x_vwO_dco, x_vwO_ins, x_vwO_fl, x_datL0, x_datL1, x_dat_p, x_dat_sl, x_dat_vw, x_dat_ow, x_sh_p, x_sh_ls, x_sh_dc, x_datu_p, x_datu_ls, x_datu_dc, x_datu_fl, x_datu_vw, x_datu_ow, x_takes0, x_takes_p, x_takes_ow, x_map_some, x_frz_p, x_frz_ls, x_frz_dc, x_take1_p, x_take1_ow, x_own1_p, x_own1_ow, x_slots_p, x_slots_sl, x_slots_ow, x_vwp_sl, x_vwp_vw, x_toO_p, x_toO_sl, x_toO_ow, x_wb_sl, x_wb_p, x_wb_ow, x_wb0, x_wb00, x_seqM_list, x_seqM_tuple, x_seqM_str, x_isI, x_all, x_any, x_join_l, x_join_t, x_add_i, x_add_s, x_add_l, x_add_t, x_sub, x_mod, x_div, x_pow, x_mul_i, x_mul_s, x_neg, x_cmp, x_eq, x_eq_s, x_eq_i, x_eq_b, x_eq_n, x_eq_ns, x_eq_sn, x_eq_is, x_eq_si, x_eq_ll, x_eq_t2, x_isN_n, x_isN_i, x_isN_s, x_isN_l, x_isN_t, x_in_s, x_in_sl, x_in_il, x_in_tl, x_in_st, x_in_it, x_len_s, x_len_l, x_len_t, x_ix_l, x_ix_t, x_ix_s, x_tup, x_lst, x_sl_s, x_sl_l, x_sl_t, x_append, x_extend, x_max_i, x_max_l, x_min, x_int_i, x_int_b, x_listOf_l, x_listOf_t, x_tupOf_l, x_tupOf_t, x_repr_i, x_repr_l, x_repr_t, x_map0, x_map1, x_app0, x_app1, x_set0, x_setS, x_get0, x_getS, x_Tr_num, x_Tr_cel, x_Tr_inn, x_Tr_op, x_forW0, x_forW1, x_lcW0, x_lcW1, x_drop1, x_drop0, x_dropn, x_take1s, x_take0, x_taken, x_ty_l, x_ty_t, x_ty_i, x_ty_b, x_ty_s, x_ty_d, x_rDisp, x_rDispN, x_sSetD, x_rGet2, x_rEnum, x_ixX_ds, x_ixX_di, x_ixX_l, x_ixX_t, x_ixX_s, x_inX_ds, x_inX_di, x_inX_s, x_inX_sl, x_inX_il, x_inX_tl, x_inX_st, x_inX_it, x_lenX_d, x_lenX_s, x_lenX_l, x_lenX_t, x_mulY_t, x_mulY_i, x_mulY_s, x_kD_i, x_kD_s, x_kP_i, x_kP_s, x_zip1, x_zip0, x_mClear, x_mReverse, x_enum0, x_scene_map, x_scene_len, x_Row_set, x_Row_tell, x_Row_ifr, x_Row_whl, x_Row_tms, x_bod_set, x_bod_tell, x_bod_ifr, x_bod_whl, x_bod_tms, x_enum1, x_enum2, x_wayO_some, x_wayO_none, x_i01, x_i11, x_sRaise1, x_sRaise0, x_sTry, x_rIs, x_rFld, x_rIsTu, x_tr_nx, x_tr_rt, x_tr_bk, x_tr_ct, x_tr_ex, x_su_nx, x_su_rt, x_su_bk, x_su_ct, x_isB, x_rp, x_held0, x_heldS, x_sUnp, x_sUnl, x_rRm, x_cnt, x_idx, x_sidx, x_tyOk_l, x_tyOk_s, x_tyOk_d, x_nc0, x_nc1, x_nc2, x_nc3, x_nc4, x_nc5, x_nc6, x_nc7, x_nc8, x_nc9, x_rRev, x_rZip, x_rsl0, x_rsl1, x_intX_s, x_intX_i, x_intX_b, x_strX_s, x_strX_i, List.map_nil, List.map_cons, List.cons_append, List.nil_append, List.append_nil, List.replicate_succ, List.replicate_zero, List.length_cons, List.length_nil, List.contains, List.elem, Nat.reduceBEq, Nat.reduceAdd, Nat.reduceSub, List.all_nil, List.all_cons, Int.reduceNeg, Int.reduceSub, Int.reduceAdd, id])
local macro_rules | `(tactic| trivial) => `(tactic| repeat (any_goals (first | ((with_reducible refine And.intro ?sd ?_); (case sd => (first | exact rfl | omega | assumption | (simp only [List.length_map, List.length_append, List.length_cons, List.length_nil, List.length_set, List.length_take, List.length_drop, List.length_range, List.length_reverse]; omega) | exact small (by omega) | exact cut_le (by omega) | exact sl_add (by first | omega | decide +kernel | exact cut_le (by omega) | exact up_le (by omega) | exact up_le (cut_le (by omega)) | exact app_le (by exact up_le4 (cut_le (by omega))) (by exact cut_le (by omega)) | exact app_le (by decide) (by omega) | exact app_le (by first | omega | exact cut_le (by omega)) (by first | omega | exact cut_le (by omega))) (by first | omega | decide +kernel | exact cut_le (by omega) | exact up_le (by omega) | exact up_le (cut_le (by omega)) | exact app_le (by exact up_le4 (cut_le (by omega))) (by exact cut_le (by omega)) | exact app_le (by decide) (by omega) | exact app_le (by first | omega | exact cut_le (by omega)) (by first | omega | exact cut_le (by omega))) | exact ⟨by omega, by omega⟩ | exact Or.inr ⟨by decide, by decide⟩ | exact Or.inl ⟨by omega, by omega⟩ | exact Or.inl ⟨by decide, by decide⟩ | exact ⟨by decide, by decide, by decide⟩ | exact small (by simp only [List.length_map, List.length_append, List.length_cons, List.length_nil, List.length_set, List.length_take, List.length_drop, List.length_range, List.length_reverse]; omega) | exact log_ok (by omega) (by omega) | (split <;> omega) | exact small (by rw [rowsD_len]; have := RowsIn.rlen (by assumption); omega) | exact small (by simp only [List.length_append, List.length_cons, List.length_nil, rowsD_len]; omega) | exact Nat.lt_of_lt_of_le (by simp only [List.length_append, List.length_cons, List.length_nil, rowsD_len, List.length_map]; omega : _ < 100000) (by decide) | rfl | decide))) | ((with_reducible refine' Exists.intro _ (And.intro put_scene ?_)); try decreasing_trivial) | ((with_reducible show sp_law_take _ _ _); (first | refine ⟨_, _, _, rfl, by decide, by decide, fun r a b r0 r1 => ?_⟩ | refine ⟨_, _, _, rfl, by omega, by omega, fun r a b r0 r1 => ?_⟩ | (refine ⟨_, _, _, rfl, by simp only [List.length_map]; omega, by simp only [List.length_map]; omega, fun r a b r0 r1 => ?_⟩; simp only [List.length_map] at r1)); try decreasing_trivial) | ((with_reducible show sp_law_feed _ _ _); (refine ⟨_, _, rfl, by omega, by omega, by omega, fun fa fb => ?_⟩); try decreasing_trivial) | ((with_reducible show sp_parts _ _ _ _); (refine ⟨_, rfl, by assumption, by assumption, ?_⟩); try decreasing_trivial) | ((with_reducible show sp_deep _ _ _ _); (refine ⟨_, rfl, by assumption, ?_⟩); try decreasing_trivial) | ((with_reducible show sp_cells _ _ _ _); (refine ⟨_, rfl, by assumption, by assumption, ?_⟩); try decreasing_trivial) | ((with_reducible show sp_law_number _ _ _); (refine ⟨_, _, rfl, fun nv a b n0 n1 => ?_⟩); try decreasing_trivial) | ((with_reducible show sp_law_names _ _ _); (refine ⟨_, _, _, rfl, by omega, by omega, fun ws a b wl wn => ?_⟩); try decreasing_trivial) | ((with_reducible show sp_law_scene _ _ _); (refine ⟨_, _, rfl, fun cs ms a b sc => ?_⟩); try decreasing_trivial) | ((with_reducible show sp_law_mark _ _ _); (refine ⟨_, _, _, rfl, by omega, by omega, by omega, fun m me => ?_⟩); try decreasing_trivial) | ((with_reducible show sp_law_term _ _ _ _); (refine ⟨_, _, _, _, _, _, _, rfl, by omega, by omega, by omega, by omega, by omega, by omega, fun t a b t1 t2 t3 => ?_⟩); try decreasing_trivial) | ((with_reducible show sp_law_row _ _ _ _); (refine ⟨_, _, _, _, _, _, _, rfl, by assumption, by omega, by omega, by omega, by omega, by omega, fun rw a b u l l0 ul ri uu => ?_⟩); try decreasing_trivial) | ((with_reducible show sp_law_body _ _ _ _); (refine ⟨_, _, _, _, _, _, _, rfl, by assumption, by omega, by omega, by omega, by omega, by omega, fun bd a b u l l0 ul ri uu une => ?_⟩); try decreasing_trivial) | ((with_reducible show sp_law_program _ _ _); (refine ⟨_, _, _, _, _, rfl, by assumption, by omega, by omega, fun pr a b u u0 u1 ri pne => ?_⟩); try decreasing_trivial) | ((with_reducible show sp_bodies_in _ _ _); (first | refine ⟨.set _ _ _, rfl, ?_⟩ | refine ⟨.tell _ _, rfl, ?_⟩ | refine ⟨.ifr _ _ _ _, rfl, ?_⟩ | (refine ⟨.whl _ _ _, by exact rfl, ?_⟩) | refine ⟨.tms _ _ _, rfl, ?_⟩ | refine ⟨_, rfl, ?_⟩); try decreasing_trivial) | ((with_reducible show sp_law_bodies _ _ _); (first | refine ⟨.set _ _ _, rfl, ?_⟩ | refine ⟨.tell _ _, rfl, ?_⟩ | refine ⟨.ifr _ _ _ _, rfl, ?_⟩ | (refine ⟨.whl _ _ _, by exact rfl, ?_⟩) | refine ⟨.tms _ _ _, rfl, ?_⟩ | refine ⟨_, rfl, ?_⟩); try decreasing_trivial) | ((with_reducible show sp_rows _ _ _ _); (refine ⟨_, rfl, by omega, by omega, ?_⟩); try decreasing_trivial) | ((with_reducible show sp_marks _ _ _ _); (refine ⟨_, rfl, by omega, by omega, ?_⟩); try decreasing_trivial) | ((with_reducible show sp_way_to _ _ _ _); (refine ⟨_, _, rfl, by omega, by omega, ?_⟩; (try simp only [ha]); (try simp only [hb])); try decreasing_trivial) | ((with_reducible show sp_spot _ _ _ _); (refine ⟨_, _, _, rfl, by assumption, by omega, by omega, ?_⟩; (try rw [esp])); try decreasing_trivial) | ((with_reducible show sp_loops _ _ _ _); (refine ⟨_, _, _, rfl, by assumption, by omega, by omega, ?_⟩); try decreasing_trivial) | ((with_reducible show sp_need_text er _ _ _); (refine ⟨_, _, rfl, fun q => ?_, fun q => ?_⟩); try decreasing_trivial) | ((with_reducible show sp_is_name _ _ _); (refine ⟨_, rfl, by omega, ?_⟩); try decreasing_trivial) | ((with_reducible show sp_is_number _ _ _); (refine ⟨_, rfl, by omega, ?_⟩); try decreasing_trivial) | ((with_reducible show sp_leaf_of er _ _ _); (refine ⟨_, _, _, rfl, by first | omega | (simp only [mkS_len]; omega), by first | exact mkS_l _ | rfl, fun t ht => ?_, fun ht => ?_⟩); try decreasing_trivial) | ((with_reducible show sp_term_at er _ _ _ _); (refine ⟨_, _, _, _, rfl, by omega, by omega, by omega, by first | assumption | rfl, by omega, fun t l ht => ?_, fun ht => ?_⟩); try decreasing_trivial) | ((with_reducible show sp_whole_term er _ _ _); (refine ⟨_, _, rfl, by omega, by omega, fun t ht => ?_, fun ht => ?_⟩); try decreasing_trivial) | ((with_reducible show sp_read_term er _ _ _); (refine ⟨_, rfl, by omega, by omega, fun t ht => ?_, fun ht => ?_⟩); try decreasing_trivial) | ((with_reducible show sp_term_text _ _ _ _); (refine ⟨_, rfl, by first | assumption | omega, by assumption, by omega, ?_⟩); try decreasing_trivial) | ((with_reducible show sp_law_term_text _ _ _ _); (refine ⟨_, rfl, by first | assumption | omega, by assumption, by omega, ?_⟩); try decreasing_trivial) | ((with_reducible show sp_law_kept _ _ _); (refine ⟨rfl, ?_⟩); try decreasing_trivial) | ((with_reducible show sp_law_word _ _ _); (refine ⟨_, _, rfl, fun wd a b wx => ?_⟩); try decreasing_trivial) | ((with_reducible show sp_law_any_term _ _ _ _); (first | refine ⟨_, _, _, _, _, rfl, by assumption, by assumption, by omega, by omega, by omega, by omega, fun t a b t1 t2 t3 => ?_⟩ | refine ⟨_, _, [_, _], _, _, rfl, by decide, by decide, by omega, by omega, by omega, by omega, fun t a b t1 t2 t3 => ?_⟩ | refine ⟨_, _, _, _, _, rfl, by assumption, by assumption, by omega, by omega, by omega, by omega, fun t a b t1 t2 t3 => ?_⟩ | refine ⟨_, _, _, _, _, rfl, by omega, by omega, by omega, by omega, by omega, by omega, fun t a b t1 t2 t3 => ?_⟩); try decreasing_trivial) | ((with_reducible show sp_law_alike _ _ _ _); (refine ⟨_, _, rfl, by assumption, by omega, ?_⟩); try decreasing_trivial) | ((with_reducible refine px_0 ?sd ?_); (case sd => (first | omega | (simp only [List.length_map, List.length_append, List.length_cons, List.length_nil, List.length_set, List.length_take, List.length_drop, List.length_range, List.length_reverse]; omega))); try decreasing_trivial) | ((with_reducible refine px_1 ?sd ?_); (case sd => (first | omega | (simp only [List.length_map, List.length_append, List.length_cons, List.length_nil, List.length_set, List.length_take, List.length_drop, List.length_range, List.length_reverse]; omega))); try decreasing_trivial) | ((with_reducible refine px_2 ?sd ?_); (case sd => (first | omega | (simp only [List.length_map, List.length_append, List.length_cons, List.length_nil, List.length_set, List.length_take, List.length_drop, List.length_range, List.length_reverse]; omega))); try decreasing_trivial) | ((with_reducible refine px_3 ?sd ?_); (case sd => (first | omega | (simp only [List.length_map, List.length_append, List.length_cons, List.length_nil, List.length_set, List.length_take, List.length_drop, List.length_range, List.length_reverse]; omega))); try decreasing_trivial) | ((with_reducible refine px_m1 ?sd ?_); (case sd => (first | omega | (simp only [List.length_map, List.length_append, List.length_cons, List.length_nil, List.length_set, List.length_take, List.length_drop, List.length_range, List.length_reverse]; omega))); try decreasing_trivial) | ((with_reducible refine px_i ?s1 ?s2 ?_); (case s1 => (first | omega | (simp only [List.length_map, List.length_append, List.length_cons, List.length_nil, List.length_set, List.length_take, List.length_drop, List.length_range, List.length_reverse]; omega))); (case s2 => (first | omega | (simp only [List.length_map, List.length_append, List.length_cons, List.length_nil, List.length_set, List.length_take, List.length_drop, List.length_range, List.length_reverse]; omega))); try decreasing_trivial) | ((with_reducible refine' ix_0 ?sd ?_); (case sd => exact rfl); try decreasing_trivial) | ((with_reducible refine' ix_1 ?sd ?_); (case sd => exact rfl); try decreasing_trivial) | ((with_reducible refine' ix_2 ?sd ?_); (case sd => exact rfl); try decreasing_trivial) | ((with_reducible refine' ix_3 ?sd ?_); (case sd => exact rfl); try decreasing_trivial) | ((with_reducible refine' ix_4 ?sd ?_); (case sd => exact rfl); try decreasing_trivial) | ((with_reducible refine' ix_5 ?sd ?_); (case sd => exact rfl); try decreasing_trivial) | ((with_reducible refine' ix_m1 ?sd ?_); (case sd => exact rfl); try decreasing_trivial) | ((with_reducible refine' ix_m2 ?sd ?_); (case sd => exact rfl); try decreasing_trivial) | (((rw [rqa])); try decreasing_trivial) | (((rw [rqb])); try decreasing_trivial) | (((rw [ewn])); try decreasing_trivial) | (((with_reducible refine' Exists.intro _ (And.intro rea ?_))); try decreasing_trivial) | (((with_reducible refine ix_am1 ?_)); try decreasing_trivial) | (((with_reducible refine ix_am2 ?_)); try decreasing_trivial) | ((((with_reducible refine ix_map ?s1 ?s2 (fun x mx me => ?_)); (case s1 => (first | omega | (simp only [List.length_map]; omega) | (simp only [List.length_map]; exact Int.emod_nonneg _ (by omega)) | (simp only [List.length_map]; exact Int.emod_lt_of_pos _ (by omega)))); (case s2 => (first | omega | (simp only [List.length_map]; omega) | (simp only [List.length_map]; exact Int.emod_nonneg _ (by omega)) | (simp only [List.length_map]; exact Int.emod_lt_of_pos _ (by omega)))))); try decreasing_trivial) | ((((with_reducible refine ix_lett ?s1 ?s2 ?_); (case s1 => omega); (case s2 => omega))); try decreasing_trivial) | ((((with_reducible refine ix_sgnM (m := 6) ?s0 ?s1 ?s2 (fun v mv => ?_)); (case s0 => decide +kernel); (case s1 => omega); (case s2 => omega))); try decreasing_trivial) | ((((with_reducible refine ix_sgnM (m := 7) ?s0 ?s1 ?s2 (fun v mv => ?_)); (case s0 => decide +kernel); (case s1 => omega); (case s2 => omega))); try decreasing_trivial) | ((((with_reducible refine ix_i2 ?s1 ?s2 (fun v vi => ?_)); (case s1 => omega); (case s2 => omega))); try decreasing_trivial) | ((((with_reducible refine ix_i3 ?s1 ?s2 (fun v vi => ?_)); (case s1 => omega); (case s2 => omega))); try decreasing_trivial) | ((((with_reducible refine ix_i6 ?s1 ?s2 (fun v vi => ?_)); (case s1 => omega); (case s2 => omega))); try decreasing_trivial) | ((((with_reducible refine ix_cons ?s1 (fun ei => ?_) (fun ei => ?_)); (case s1 => omega))); try decreasing_trivial) | ((((with_reducible refine ix_nil ?s1); (case s1 => omega))); try decreasing_trivial) | ((((with_reducible refine ix_let2 ?s1 ?s2 ?_); (case s1 => omega); (case s2 => omega))); try decreasing_trivial) | ((with_reducible refine' Exists.intro _ (And.intro ?sd ?_)); (case sd => exact rfl); try decreasing_trivial) | ((with_reducible refine iteB (fun c => ?_) (fun c => ?_)) <;> (try simp only [decide_eq_true_eq, decide_eq_false_iff_not, Bool.not_eq_true', Bool.not_eq_false', id, List.length_map, eqv_int, eqv_str, List.any_cons, List.any_nil, Bool.or_eq_true, Bool.or_false, Bool.or_eq_false_iff] at c) <;> (try exact absurd c (by assumption)) <;> (try exact absurd (by assumption) c) <;> (try exact absurd c (by decide +kernel)) <;> (try exact absurd (c.symm.trans (show _ = true by assumption)) (by decide)) <;> (try exact absurd (c.symm.trans (show _ = false by assumption)) (by decide)) <;> (try decreasing_trivial)) | ((with_reducible refine' Exists.intro _ (And.intro kit_bb ?_)); try decreasing_trivial) | ((with_reducible refine' Exists.intro _ (And.intro kit_ll ?_)); try decreasing_trivial) | ((with_reducible refine' Exists.intro _ (And.intro kit_tt ?_)); try decreasing_trivial) | ((with_reducible refine' Exists.intro _ (And.intro kit_dd ?_)); try decreasing_trivial) | ((with_reducible refine' Exists.intro _ (And.intro kit_ii ?_)); try decreasing_trivial) | ((with_reducible refine' Exists.intro _ (And.intro kit_ss ?_)); try decreasing_trivial) | ((with_reducible refine' Exists.intro _ (And.intro kit_ib ?_)); try decreasing_trivial) | ((with_reducible refine' Exists.intro _ (And.intro kit_bi ?_)); try decreasing_trivial) | ((with_reducible refine dv_hit ?sd ?_); (case sd => first | exact rfl | decide +kernel); try decreasing_trivial) | ((with_reducible refine dv_miss ?sd ?_); (case sd => decide +kernel); try decreasing_trivial) | ((first | rw [inx_set] | rw [inx_tell] | rw [inx_ifr] | rw [inx_whl] | rw [inx_tms]); try decreasing_trivial) | ((first | rw [cut_lo1] | rw [cut_hi1] | rw [cut_lo2] | rw [cut_hi2] | rw [cut_lo3] | rw [cut_hi3] | rw [cut_lo4] | rw [cut_hi4] | rw [cut_lo5] | rw [cut_hi5] | rw [cut_lo6] | rw [cut_hi6]); try decreasing_trivial))))
section
variable {P : Program} {w : World} {K : PySem.W.Frag} {mg : Str → Option Value} {base : Heap} {fa : Addr} {fd : FuncData}
abbrev s_is_name : Stmt := top 7
abbrev n_is_name : List Str := ["text", "sign"]
theorem sc_is_name : FnScope n_is_name ["text"] (defScope s_is_name) := ⟨rfl, rfl, rfl, by decide +kernel, rfl, by decide +kernel, by decide +kernel⟩
theorem ok_is_name (F : Fun K "is_name" "is_name" s_is_name fa fd) (g_LETTERS : GlOk K mg "LETTERS" (.str "abcdefghijklmnopqrstuvwxyz")) (g_KEPT : GlOk K mg "KEPT" (.tuple (keptL.map PyData.str))) (g_MOST_SIGNS : GlOk K mg "MOST_SIGNS" (.int 6)) (z_all : mg "all" = none) (z_len : mg "len" = none) :
    FnV P w K mg base 1 fa fd ["text"] [] sp_is_name := by
  refine FnV.of F sc_is_name (fun os k kx h => by obtain ⟨x, rfl, _⟩ := h; rfl) fun cdv A outer s H E hg hr => ⟨_, _, (js_cons (js_if (JW.t (jw_or (jt_cmp op_lt ok_cmpI (nomark _) (je_B call_lenX ok_lenX rfl z_len PySem.boot_len (ja_cons (je_var 0) ja_nil)) je_int) (jw_or (jt_cmp op_gt ok_cmpI (nomark _) (je_B call_lenX ok_lenX rfl z_len PySem.boot_len (ja_cons (je_var 0) ja_nil)) (je_gl g_MOST_SIGNS rfl)) (jw_or1 (jt_cmp (op_inXX (u65 hr)) ok_inX (by rfl) (je_var 0) (je_gl g_KEPT rfl)))))) (js_one (js_ret je_bl)) js_nil)
      (js_one (js_ret (je_B (cr_all rfl) ok_all rfl z_all (by decide +kernel) (ja_cons (je_lc (B0 := [0]) (own := [("sign", 1)]) (show ∀ j, j < 2 → j ∉ ([1] : List Nat) → j ∈ ([0] : List Nat) by decide) rfl sc_is_name.nd (ji_seq (je_var 0)) (blkOk_by (own := [("sign", 1)]) (N := n_is_name) (sc := defScope s_is_name) (by decide +kernel)) (fun _ _ _ _ _ => (jg_name (i := 1) rfl sc_is_name.nd rfl (Or.inl rfl))) (fun _ _ _ _ _ => jts_nil) (fun _ _ _ _ _ => (je_cmp (op_inXX (u65 hr)) ok_inX (by rfl) (je_var 1) (je_gl g_LETTERS rfl)))) ja_nil))))), fun os kk kx h => ?_⟩
  obtain ⟨x, rfl, h0, k⟩ := h
  have hz : x.cps.toList.length ≤ sizeLine := by rw [← VL.len_list]; exact small (by omega)
  try dsimp only [n_is_name, List.length_cons, List.length_nil, Nat.reduceAdd, Nat.reduceSub]
  try decreasing_trivial
  trivial
  · rw [name_1 c] at k; exact k
  · rw [name_2 c] at k; exact k
  · rw [name_3 c] at k; exact k
  · rename_i c1 c2
    refine lcW_maps (fun c => .bool (decide (c ∈ (Str.ofString "abcdefghijklmnopqrstuvwxyz").cps.toList))) hz ?_ ?_
    · intro s ms acc K hl hk
      try dsimp only [n_is_name, List.length_cons, List.length_nil, Nat.reduceAdd, Nat.reduceSub]
      try decreasing_trivial
      trivial
      all_goals exact hk
    · have nb := name_4 c1 c2 c
      try dsimp only [n_is_name, List.length_cons, List.length_nil, Nat.reduceAdd, Nat.reduceSub]
      try decreasing_trivial
      trivial
      refine ⟨_, bls_map _, ?_⟩
      rw [nb]
      try dsimp only [n_is_name, List.length_cons, List.length_nil, Nat.reduceAdd, Nat.reduceSub]
      try decreasing_trivial
      trivial
      all_goals exact k
end
end KR

namespace KR
open PySem PySem.Spec PyProof.Rows L2 VL
set_option hygiene false
local macro_rules | `(tactic| decreasing_trivial) => `(tactic| dsimp only [x_aNil, x_aCons, x_rOp, x_rOu, x_rVar, x_rC, x_rT, x_rTand, x_rTor, x_rTnot, x_rAnd, x_rOr, x_rNot, x_rIf, x_rOt, x_rNewD, x_rSlLU, x_rSlL, x_rSlU, x_rChain, x_sNil, x_sSeq, x_sBreak, x_sCont, x_sExpr, x_sRet, x_sRetN, x_sIf, x_sSet, x_rMv, x_rFz, x_rMt, x_rMr, x_sSetL, x_rCall, x_bName, x_bTup, x_rSeq, x_rRange1, x_rRange2, x_sFor, x_rLc, x_rYes, x_rIsi1, x_rM0, x_rM1, x_aLate, x_sPar, x_sAug, x_tt, x_ff, x_bNames0, x_bNames1, x_lcT, x_wipe0, x_wipe1, x_AN_of_nx, x_AN_of_rt, x_AN_of_ex, x_seq_nx, x_seq_rt, x_seq_bk, x_seq_ct, x_seq_ex, x_loop_nx, x_loop_rt, x_loop_bk, x_loop_ct, x_loop_ex, x_grd_p, x_grd_ow, x_grd_sl, x_grd_vw, x_vwO_p, x_vwO_ls, x_vwO_lo, x_vwO_dc, x_vwO_dco, x_vwO_ins, x_vwO_fl, x_datL0, x_datL1, x_dat_p, x_dat_sl, x_dat_vw, x_dat_ow, x_sh_p, x_sh_ls, x_sh_dc, x_datu_p, x_datu_ls, x_datu_dc, x_datu_fl, x_datu_vw, x_datu_ow, x_takes0, x_takes_p, x_takes_ow, x_map_some, x_frz_p, x_frz_ls, x_frz_dc, x_take1_p, x_take1_ow, x_own1_p, x_own1_ow, x_slots_p, x_slots_sl, x_slots_ow, x_vwp_sl, x_vwp_vw, x_toO_p, x_toO_sl, x_toO_ow, x_wb_sl, x_wb_p, x_wb_ow, x_wb0, x_wb00, x_seqM_list, x_seqM_tuple, x_seqM_str, x_isI, x_all, x_any, x_join_l, x_join_t, x_add_i, x_add_s, x_add_l, x_add_t, x_sub, x_mod, x_div, x_pow, x_mul_i, x_mul_s, x_neg, x_cmp, x_eq, x_eq_s, x_eq_i, x_eq_b, x_eq_n, x_eq_ns, x_eq_sn, x_eq_is, x_eq_si, x_eq_ll, x_eq_t2, x_isN_n, x_isN_i, x_isN_s, x_isN_l, x_isN_t, x_in_s, x_in_sl, x_in_il, x_in_tl, x_in_st, x_in_it, x_len_s, x_len_l, x_len_t, x_ix_l, x_ix_t, x_ix_s, x_tup, x_lst, x_sl_s, x_sl_l, x_sl_t, x_append, x_extend, x_max_i, x_max_l, x_min, x_int_i, x_int_b, x_listOf_l, x_listOf_t, x_tupOf_l, x_tupOf_t, x_repr_i, x_repr_l, x_repr_t, x_map0, x_map1, x_app0, x_app1, x_set0, x_setS, x_get0, x_getS, x_Tr_num, x_Tr_cel, x_Tr_inn, x_Tr_op, x_forW0, x_forW1, x_lcW0, x_lcW1, x_drop1, x_drop0, x_dropn, x_take1s, x_take0, x_taken, x_ty_l, x_ty_t, x_ty_i, x_ty_b, x_ty_s, x_ty_d, x_rDisp, x_rDispN, x_sSetD, x_rGet2, x_rEnum, x_ixX_ds, x_ixX_di, x_ixX_l, x_ixX_t, x_ixX_s, x_inX_ds, x_inX_di, x_inX_s, x_inX_sl, x_inX_il, x_inX_tl, x_inX_st, x_inX_it, x_lenX_d, x_lenX_s, x_lenX_l, x_lenX_t, x_mulY_t, x_mulY_i, x_mulY_s, x_kD_i, x_kD_s, x_kP_i, x_kP_s, x_zip1, x_zip0, x_mClear, x_mReverse, x_enum0, x_scene_map, x_scene_len, x_Row_set, x_Row_tell, x_Row_ifr, x_Row_whl, x_Row_tms, x_bod_set, x_bod_tell, x_bod_ifr, x_bod_whl, x_bod_tms, x_enum1, x_enum2, x_wayO_some, x_wayO_none, x_i01, x_i11, x_sRaise1, x_sRaise0, x_sTry, x_rIs, x_rFld, x_rIsTu, x_tr_nx, x_tr_rt, x_tr_bk, x_tr_ct, x_tr_ex, x_su_nx, x_su_rt, x_su_bk, x_su_ct, x_isB, x_rp, x_held0, x_heldS, x_sUnp, x_sUnl, x_rRm, x_cnt, x_idx, x_sidx, x_tyOk_l, x_tyOk_s, x_tyOk_d, x_nc0, x_nc1, x_nc2, x_nc3, x_nc4, x_nc5, x_nc6, x_nc7, x_nc8, x_nc9, x_rRev, x_rZip, x_rsl0, x_rsl1, x_intX_s, x_intX_i, x_intX_b, x_strX_s, x_strX_i, List.map_nil, List.map_cons, List.cons_append, List.nil_append, List.append_nil, List.replicate_succ, List.replicate_zero, List.length_cons, List.length_nil, List.contains, List.elem, Nat.reduceBEq, Nat.reduceAdd, Nat.reduceSub, List.all_nil, List.all_cons, Int.reduceNeg, Int.reduceSub, Int.reduceAdd, id])
local macro_rules | `(tactic| trivial) => `(tactic| repeat (any_goals (first | ((with_reducible refine And.intro ?sd ?_); (case sd => (first | exact rfl | omega | assumption | (simp only [List.length_map, List.length_append, List.length_cons, List.length_nil, List.length_set, List.length_take, List.length_drop, List.length_range, List.length_reverse]; omega) | exact small (by omega) | exact cut_le (by omega) | exact sl_add (by first | omega | decide +kernel | exact cut_le (by omega) | exact up_le (by omega) | exact up_le (cut_le (by omega)) | exact app_le (by exact up_le4 (cut_le (by omega))) (by exact cut_le (by omega)) | exact app_le (by decide) (by omega) | exact app_le (by first | omega | exact cut_le (by omega)) (by first | omega | exact cut_le (by omega))) (by first | omega | decide +kernel | exact cut_le (by omega) | exact up_le (by omega) | exact up_le (cut_le (by omega)) | exact app_le (by exact up_le4 (cut_le (by omega))) (by exact cut_le (by omega)) | exact app_le (by decide) (by omega) | exact app_le (by first | omega | exact cut_le (by omega)) (by first | omega | exact cut_le (by omega))) | exact ⟨by omega, by omega⟩ | exact Or.inr ⟨by decide, by decide⟩ | exact Or.inl ⟨by omega, by omega⟩ | exact Or.inl ⟨by decide, by decide⟩ | exact ⟨by decide, by decide, by decide⟩ | exact small (by simp only [List.length_map, List.length_append, List.length_cons, List.length_nil, List.length_set, List.length_take, List.length_drop, List.length_range, List.length_reverse]; omega) | exact log_ok (by omega) (by omega) | (split <;> omega) | exact small (by rw [rowsD_len]; have := RowsIn.rlen (by assumption); omega) | exact small (by simp only [List.length_append, List.length_cons, List.length_nil, rowsD_len]; omega) | exact Nat.lt_of_lt_of_le (by simp only [List.length_append, List.length_cons, List.length_nil, rowsD_len, List.length_map]; omega : _ < 100000) (by decide) | rfl | decide))) | ((with_reducible refine' Exists.intro _ (And.intro put_scene ?_)); try decreasing_trivial) | ((with_reducible show sp_law_take _ _ _); (first | refine ⟨_, _, _, rfl, by decide, by decide, fun r a b r0 r1 => ?_⟩ | refine ⟨_, _, _, rfl, by omega, by omega, fun r a b r0 r1 => ?_⟩ | (refine ⟨_, _, _, rfl, by simp only [List.length_map]; omega, by simp only [List.length_map]; omega, fun r a b r0 r1 => ?_⟩; simp only [List.length_map] at r1)); try decreasing_trivial) | ((with_reducible show sp_law_feed _ _ _); (refine ⟨_, _, rfl, by omega, by omega, by omega, fun fa fb => ?_⟩); try decreasing_trivial) | ((with_reducible show sp_parts _ _ _ _); (refine ⟨_, rfl, by assumption, by assumption, ?_⟩); try decreasing_trivial) | ((with_reducible show sp_deep _ _ _ _); (refine ⟨_, rfl, by assumption, ?_⟩); try decreasing_trivial) | ((with_reducible show sp_cells _ _ _ _); (refine ⟨_, rfl, by assumption, by assumption, ?_⟩); try decreasing_trivial) | ((with_reducible show sp_law_number _ _ _); (refine ⟨_, _, rfl, fun nv a b n0 n1 => ?_⟩); try decreasing_trivial) | ((with_reducible show sp_law_names _ _ _); (refine ⟨_, _, _, rfl, by omega, by omega, fun ws a b wl wn => ?_⟩); try decreasing_trivial) | ((with_reducible show sp_law_scene _ _ _); (refine ⟨_, _, rfl, fun cs ms a b sc => ?_⟩); try decreasing_trivial) | ((with_reducible show sp_law_mark _ _ _); (refine ⟨_, _, _, rfl, by omega, by omega, by omega, fun m me => ?_⟩); try decreasing_trivial) | ((with_reducible show sp_law_term _ _ _ _); (refine ⟨_, _, _, _, _, _, _, rfl, by omega, by omega, by omega, by omega, by omega, by omega, fun t a b t1 t2 t3 => ?_⟩); try decreasing_trivial) | ((with_reducible show sp_law_row _ _ _ _); (refine ⟨_, _, _, _, _, _, _, rfl, by assumption, by omega, by omega, by omega, by omega, by omega, fun rw a b u l l0 ul ri uu => ?_⟩); try decreasing_trivial) | ((with_reducible show sp_law_body _ _ _ _); (refine ⟨_, _, _, _, _, _, _, rfl, by assumption, by omega, by omega, by omega, by omega, by omega, fun bd a b u l l0 ul ri uu une => ?_⟩); try decreasing_trivial) | ((with_reducible show sp_law_program _ _ _); (refine ⟨_, _, _, _, _, rfl, by assumption, by omega, by omega, fun pr a b u u0 u1 ri pne => ?_⟩); try decreasing_trivial) | ((with_reducible show sp_bodies_in _ _ _); (first | refine ⟨.set _ _ _, rfl, ?_⟩ | refine ⟨.tell _ _, rfl, ?_⟩ | refine ⟨.ifr _ _ _ _, rfl, ?_⟩ | (refine ⟨.whl _ _ _, by exact rfl, ?_⟩) | refine ⟨.tms _ _ _, rfl, ?_⟩ | refine ⟨_, rfl, ?_⟩); try decreasing_trivial) | ((with_reducible show sp_law_bodies _ _ _); (first | refine ⟨.set _ _ _, rfl, ?_⟩ | refine ⟨.tell _ _, rfl, ?_⟩ | refine ⟨.ifr _ _ _ _, rfl, ?_⟩ | (refine ⟨.whl _ _ _, by exact rfl, ?_⟩) | refine ⟨.tms _ _ _, rfl, ?_⟩ | refine ⟨_, rfl, ?_⟩); try decreasing_trivial) | ((with_reducible show sp_rows _ _ _ _); (refine ⟨_, rfl, by omega, by omega, ?_⟩); try decreasing_trivial) | ((with_reducible show sp_marks _ _ _ _); (refine ⟨_, rfl, by omega, by omega, ?_⟩); try decreasing_trivial) | ((with_reducible show sp_way_to _ _ _ _); (refine ⟨_, _, rfl, by omega, by omega, ?_⟩; (try simp only [ha]); (try simp only [hb])); try decreasing_trivial) | ((with_reducible show sp_spot _ _ _ _); (refine ⟨_, _, _, rfl, by assumption, by omega, by omega, ?_⟩; (try rw [esp])); try decreasing_trivial) | ((with_reducible show sp_loops _ _ _ _); (refine ⟨_, _, _, rfl, by assumption, by omega, by omega, ?_⟩); try decreasing_trivial) | ((with_reducible show sp_need_text er _ _ _); (refine ⟨_, _, rfl, fun q => ?_, fun q => ?_⟩); try decreasing_trivial) | ((with_reducible show sp_is_name _ _ _); (refine ⟨_, rfl, by omega, ?_⟩); try decreasing_trivial) | ((with_reducible show sp_is_number _ _ _); (refine ⟨_, rfl, by omega, ?_⟩); try decreasing_trivial) | ((with_reducible show sp_leaf_of er _ _ _); (refine ⟨_, _, _, rfl, by first | omega | (simp only [mkS_len]; omega), by first | exact mkS_l _ | rfl, fun t ht => ?_, fun ht => ?_⟩); try decreasing_trivial) | ((with_reducible show sp_term_at er _ _ _ _); (refine ⟨_, _, _, _, rfl, by omega, by omega, by omega, by first | assumption | rfl, by omega, fun t l ht => ?_, fun ht => ?_⟩); try decreasing_trivial) | ((with_reducible show sp_whole_term er _ _ _); (refine ⟨_, _, rfl, by omega, by omega, fun t ht => ?_, fun ht => ?_⟩); try decreasing_trivial) | ((with_reducible show sp_read_term er _ _ _); (refine ⟨_, rfl, by omega, by omega, fun t ht => ?_, fun ht => ?_⟩); try decreasing_trivial) | ((with_reducible show sp_term_text _ _ _ _); (refine ⟨_, rfl, by first | assumption | omega, by assumption, by omega, ?_⟩); try decreasing_trivial) | ((with_reducible show sp_law_term_text _ _ _ _); (refine ⟨_, rfl, by first | assumption | omega, by assumption, by omega, ?_⟩); try decreasing_trivial) | ((with_reducible show sp_law_kept _ _ _); (refine ⟨rfl, ?_⟩); try decreasing_trivial) | ((with_reducible show sp_law_word _ _ _); (refine ⟨_, _, rfl, fun wd a b wx => ?_⟩); try decreasing_trivial) | ((with_reducible show sp_law_any_term _ _ _ _); (first | refine ⟨_, _, _, _, _, rfl, by assumption, by assumption, by omega, by omega, by omega, by omega, fun t a b t1 t2 t3 => ?_⟩ | refine ⟨_, _, [_, _], _, _, rfl, by decide, by decide, by omega, by omega, by omega, by omega, fun t a b t1 t2 t3 => ?_⟩ | refine ⟨_, _, _, _, _, rfl, by assumption, by assumption, by omega, by omega, by omega, by omega, fun t a b t1 t2 t3 => ?_⟩ | refine ⟨_, _, _, _, _, rfl, by omega, by omega, by omega, by omega, by omega, by omega, fun t a b t1 t2 t3 => ?_⟩); try decreasing_trivial) | ((with_reducible show sp_law_alike _ _ _ _); (refine ⟨_, _, rfl, by assumption, by omega, ?_⟩); try decreasing_trivial) | ((with_reducible refine px_0 ?sd ?_); (case sd => (first | omega | (simp only [List.length_map, List.length_append, List.length_cons, List.length_nil, List.length_set, List.length_take, List.length_drop, List.length_range, List.length_reverse]; omega))); try decreasing_trivial) | ((with_reducible refine px_1 ?sd ?_); (case sd => (first | omega | (simp only [List.length_map, List.length_append, List.length_cons, List.length_nil, List.length_set, List.length_take, List.length_drop, List.length_range, List.length_reverse]; omega))); try decreasing_trivial) | ((with_reducible refine px_2 ?sd ?_); (case sd => (first | omega | (simp only [List.length_map, List.length_append, List.length_cons, List.length_nil, List.length_set, List.length_take, List.length_drop, List.length_range, List.length_reverse]; omega))); try decreasing_trivial) | ((with_reducible refine px_3 ?sd ?_); (case sd => (first | omega | (simp only [List.length_map, List.length_append, List.length_cons, List.length_nil, List.length_set, List.length_take, List.length_drop, List.length_range, List.length_reverse]; omega))); try decreasing_trivial) | ((with_reducible refine px_m1 ?sd ?_); (case sd => (first | omega | (simp only [List.length_map, List.length_append, List.length_cons, List.length_nil, List.length_set, List.length_take, List.length_drop, List.length_range, List.length_reverse]; omega))); try decreasing_trivial) | ((with_reducible refine px_i ?s1 ?s2 ?_); (case s1 => (first | omega | (simp only [List.length_map, List.length_append, List.length_cons, List.length_nil, List.length_set, List.length_take, List.length_drop, List.length_range, List.length_reverse]; omega))); (case s2 => (first | omega | (simp only [List.length_map, List.length_append, List.length_cons, List.length_nil, List.length_set, List.length_take, List.length_drop, List.length_range, List.length_reverse]; omega))); try decreasing_trivial) | ((with_reducible refine' ix_0 ?sd ?_); (case sd => exact rfl); try decreasing_trivial) | ((with_reducible refine' ix_1 ?sd ?_); (case sd => exact rfl); try decreasing_trivial) | ((with_reducible refine' ix_2 ?sd ?_); (case sd => exact rfl); try decreasing_trivial) | ((with_reducible refine' ix_3 ?sd ?_); (case sd => exact rfl); try decreasing_trivial) | ((with_reducible refine' ix_4 ?sd ?_); (case sd => exact rfl); try decreasing_trivial) | ((with_reducible refine' ix_5 ?sd ?_); (case sd => exact rfl); try decreasing_trivial) | ((with_reducible refine' ix_m1 ?sd ?_); (case sd => exact rfl); try decreasing_trivial) | ((with_reducible refine' ix_m2 ?sd ?_); (case sd => exact rfl); try decreasing_trivial) | (((rw [rqa])); try decreasing_trivial) | (((rw [rqb])); try decreasing_trivial) | (((rw [ewn])); try decreasing_trivial) | (((with_reducible refine' Exists.intro _ (And.intro rea ?_))); try decreasing_trivial) | (((with_reducible refine ix_am1 ?_)); try decreasing_trivial) | (((with_reducible refine ix_am2 ?_)); try decreasing_trivial) | ((((with_reducible refine ix_map ?s1 ?s2 (fun x mx me => ?_)); (case s1 => (first | omega | (simp only [List.length_map]; omega) | (simp only [List.length_map]; exact Int.emod_nonneg _ (by omega)) | (simp only [List.length_map]; exact Int.emod_lt_of_pos _ (by omega)))); (case s2 => (first | omega | (simp only [List.length_map]; omega) | (simp only [List.length_map]; exact Int.emod_nonneg _ (by omega)) | (simp only [List.length_map]; exact Int.emod_lt_of_pos _ (by omega)))))); try decreasing_trivial) | ((((with_reducible refine ix_lett ?s1 ?s2 ?_); (case s1 => omega); (case s2 => omega))); try decreasing_trivial) | ((((with_reducible refine ix_sgnM (m := 6) ?s0 ?s1 ?s2 (fun v mv => ?_)); (case s0 => decide +kernel); (case s1 => omega); (case s2 => omega))); try decreasing_trivial) | ((((with_reducible refine ix_sgnM (m := 7) ?s0 ?s1 ?s2 (fun v mv => ?_)); (case s0 => decide +kernel); (case s1 => omega); (case s2 => omega))); try decreasing_trivial) | ((((with_reducible refine ix_i2 ?s1 ?s2 (fun v vi => ?_)); (case s1 => omega); (case s2 => omega))); try decreasing_trivial) | ((((with_reducible refine ix_i3 ?s1 ?s2 (fun v vi => ?_)); (case s1 => omega); (case s2 => omega))); try decreasing_trivial) | ((((with_reducible refine ix_i6 ?s1 ?s2 (fun v vi => ?_)); (case s1 => omega); (case s2 => omega))); try decreasing_trivial) | ((((with_reducible refine ix_cons ?s1 (fun ei => ?_) (fun ei => ?_)); (case s1 => omega))); try decreasing_trivial) | ((((with_reducible refine ix_nil ?s1); (case s1 => omega))); try decreasing_trivial) | ((((with_reducible refine ix_let2 ?s1 ?s2 ?_); (case s1 => omega); (case s2 => omega))); try decreasing_trivial) | ((with_reducible refine' Exists.intro _ (And.intro ?sd ?_)); (case sd => exact rfl); try decreasing_trivial) | ((with_reducible refine iteB (fun c => ?_) (fun c => ?_)) <;> (try simp only [decide_eq_true_eq, decide_eq_false_iff_not, Bool.not_eq_true', Bool.not_eq_false', id, List.length_map, eqv_int, eqv_str, List.any_cons, List.any_nil, Bool.or_eq_true, Bool.or_false, Bool.or_eq_false_iff] at c) <;> (try exact absurd c (by assumption)) <;> (try exact absurd (by assumption) c) <;> (try exact absurd c (by decide +kernel)) <;> (try exact absurd (c.symm.trans (show _ = true by assumption)) (by decide)) <;> (try exact absurd (c.symm.trans (show _ = false by assumption)) (by decide)) <;> (try decreasing_trivial)) | ((with_reducible refine' Exists.intro _ (And.intro kit_bb ?_)); try decreasing_trivial) | ((with_reducible refine' Exists.intro _ (And.intro kit_ll ?_)); try decreasing_trivial) | ((with_reducible refine' Exists.intro _ (And.intro kit_tt ?_)); try decreasing_trivial) | ((with_reducible refine' Exists.intro _ (And.intro kit_dd ?_)); try decreasing_trivial) | ((with_reducible refine' Exists.intro _ (And.intro kit_ii ?_)); try decreasing_trivial) | ((with_reducible refine' Exists.intro _ (And.intro kit_ss ?_)); try decreasing_trivial) | ((with_reducible refine' Exists.intro _ (And.intro kit_ib ?_)); try decreasing_trivial) | ((with_reducible refine' Exists.intro _ (And.intro kit_bi ?_)); try decreasing_trivial) | ((with_reducible refine dv_hit ?sd ?_); (case sd => first | exact rfl | decide +kernel); try decreasing_trivial) | ((with_reducible refine dv_miss ?sd ?_); (case sd => decide +kernel); try decreasing_trivial) | ((first | rw [inx_set] | rw [inx_tell] | rw [inx_ifr] | rw [inx_whl] | rw [inx_tms]); try decreasing_trivial) | ((first | rw [cut_lo1] | rw [cut_hi1] | rw [cut_lo2] | rw [cut_hi2] | rw [cut_lo3] | rw [cut_hi3] | rw [cut_lo4] | rw [cut_hi4] | rw [cut_lo5] | rw [cut_hi5] | rw [cut_lo6] | rw [cut_hi6]); try decreasing_trivial))))
section
variable {P : Program} {w : World} {K : PySem.W.Frag} {mg : Str → Option Value} {base : Heap} {fa : Addr} {fd : FuncData}
abbrev s_is_number : Stmt := top 15
abbrev n_is_number : List Str := ["word", "sign"]
theorem sc_is_number : FnScope n_is_number ["word"] (defScope s_is_number) := ⟨rfl, rfl, rfl, by decide +kernel, rfl, by decide +kernel, by decide +kernel⟩
theorem ok_is_number (F : Fun K "is_number" "is_number" s_is_number fa fd) (g_NUMBER_SIGNS : GlOk K mg "NUMBER_SIGNS" (.int 6)) (z_len : mg "len" = none) (z_all : mg "all" = none) :
    FnV P w K mg base 1 fa fd ["word"] [] sp_is_number := by
  refine FnV.of F sc_is_number (fun os k kx h => by obtain ⟨x, rfl, _⟩ := h; rfl) fun cdv A outer s H E hg hr => ⟨_, _, (js_cons (js_if (JW.t (jw_or (jt_not (jt_chain op_lt op_le ok_cmpI ok_cmpI je_int (je_B call_lenX ok_lenX rfl z_len PySem.boot_len (ja_cons (je_var 0) ja_nil)) (je_gl g_NUMBER_SIGNS rfl))) (jw_or1 (jt_not (jt_val (je_B (cr_all rfl) ok_all rfl z_all (by decide +kernel) (ja_cons (je_lc (B0 := [0]) (own := [("sign", 1)]) (show ∀ j, j < 2 → j ∉ ([1] : List Nat) → j ∈ ([0] : List Nat) by decide) rfl sc_is_number.nd (ji_seq (je_var 0)) (blkOk_by (own := [("sign", 1)]) (N := n_is_number) (sc := defScope s_is_number) (by decide +kernel)) (fun _ _ _ _ _ => (jg_name (i := 1) rfl sc_is_number.nd rfl (Or.inl rfl))) (fun _ _ _ _ _ => jts_nil) (fun _ _ _ _ _ => (je_cmp (op_inXX (u65 hr)) ok_inX (by rfl) (je_var 1) je_str))) ja_nil))))))) (js_one (js_ret je_bl)) js_nil)
      (js_one (js_ret (je_or (je_cmp (op_eqX hr.units) ok_eq (nomark _) (je_B call_lenX ok_lenX rfl z_len PySem.boot_len (ja_cons (je_var 0) ja_nil)) je_int) (je_one (je_cmp (op_neX hr.units) ok_ne (nomark _) (je_ix (ix_X (u1 hr)) ok_ixX (je_var 0) je_int (fun _ _ => rfl)) je_str)))))), fun os kk kx h => ?_⟩
  obtain ⟨x, rfl, h0, k⟩ := h
  have hz : x.cps.toList.length ≤ sizeLine := by rw [← VL.len_list]; exact small (by omega)
  try dsimp only [n_is_number, List.length_cons, List.length_nil, Nat.reduceAdd, Nat.reduceSub]
  try decreasing_trivial
  trivial
  · rw [num_1 c] at k; exact k
  · rename_i c1
    refine lcW_maps (fun c => .bool (decide (c ∈ (Str.ofString "0123456789").cps.toList))) hz ?_ ?_
    · intro s ms acc K hl hk
      try dsimp only [n_is_number, List.length_cons, List.length_nil, Nat.reduceAdd, Nat.reduceSub]
      try decreasing_trivial
      trivial
      all_goals exact hk
    ·
      try dsimp only [n_is_number, List.length_cons, List.length_nil, Nat.reduceAdd, Nat.reduceSub]
      try decreasing_trivial
      trivial
      refine ⟨_, bls_map _, ?_⟩
      rw [num_dig]
      have nb : x.cps.toList.all isDig = true → _ := num_4 (x := x) c1 c
      obtain ⟨d, l, ed⟩ : ∃ d l, x.cps.toList = d :: l := by
        cases e : x.cps.toList with
        | nil => rw [VL.len_list, e] at c1; simp at c1
        | cons d l => exact ⟨d, l, rfl⟩
      try dsimp only [n_is_number, List.length_cons, List.length_nil, Nat.reduceAdd, Nat.reduceSub]
      try decreasing_trivial
      trivial
      · rw [num_3 c] at k; exact k
      · rename_i cd
        have l1 : x.cps.toList.length = 1 := by rw [← VL.len_list]; omega
        rw [nb cd, decide_eq_true l1] at k; exact k
      · rename_i cd
        have l1 : ¬ x.cps.toList.length = 1 := by rw [← VL.len_list]; omega
        rw [nb cd, decide_eq_false l1, ed] at k
        refine ix_first ed ?_
        try dsimp only [n_is_number, List.length_cons, List.length_nil, Nat.reduceAdd, Nat.reduceSub]
        try decreasing_trivial
        trivial
        rw [zero_sg]
        have e : decide ((sg d : Str) = sg 48) = decide ((d :: l).head? = some 48) := decide_eq_decide.mpr (by rw [sg_eq]; simp)
        show kk (R.p (PyData.bool (!decide (sg d = sg 48)))) _
        rw [e]
        exact k
  · rw [num_2 (by assumption)] at k; exact k
end
end KR

namespace KR
open PySem PySem.Spec PyProof.Rows L2 VL
set_option hygiene false
local macro_rules | `(tactic| decreasing_trivial) => `(tactic| dsimp only [x_aNil, x_aCons, x_rOp, x_rOu, x_rVar, x_rC, x_rT, x_rTand, x_rTor, x_rTnot, x_rAnd, x_rOr, x_rNot, x_rIf, x_rOt, x_rNewD, x_rSlLU, x_rSlL, x_rSlU, x_rChain, x_sNil, x_sSeq, x_sBreak, x_sCont, x_sExpr, x_sRet, x_sRetN, x_sIf, x_sSet, x_rMv, x_rFz, x_rMt, x_rMr, x_sSetL, x_rCall, x_bName, x_bTup, x_rSeq, x_rRange1, x_rRange2, x_sFor, x_rLc, x_rYes, x_rIsi1, x_rM0, x_rM1, x_aLate, x_sPar, x_sAug, x_tt, x_ff, x_bNames0, x_bNames1, x_lcT, x_wipe0, x_wipe1, x_AN_of_nx, x_AN_of_rt, x_AN_of_ex, x_seq_nx, x_seq_rt, x_seq_bk, x_seq_ct, x_seq_ex, x_loop_nx, x_loop_rt, x_loop_bk, x_loop_ct, x_loop_ex, x_grd_p, x_grd_ow, x_grd_sl, x_grd_vw, x_vwO_p, x_vwO_ls, x_vwO_lo, x_vwO_dc, x_vwO_dco, x_vwO_ins, x_vwO_fl, x_datL0, x_datL1, x_dat_p, x_dat_sl, x_dat_vw, x_dat_ow, x_sh_p, x_sh_ls, x_sh_dc, x_datu_p, x_datu_ls, x_datu_dc, x_datu_fl, x_datu_vw, x_datu_ow, x_takes0, x_takes_p, x_takes_ow, x_map_some, x_frz_p, x_frz_ls, x_frz_dc, x_take1_p, x_take1_ow, x_own1_p, x_own1_ow, x_slots_p, x_slots_sl, x_slots_ow, x_vwp_sl, x_vwp_vw, x_toO_p, x_toO_sl, x_toO_ow, x_wb_sl, x_wb_p, x_wb_ow, x_wb0, x_wb00, x_seqM_list, x_seqM_tuple, x_seqM_str, x_isI, x_all, x_any, x_join_l, x_join_t, x_add_i, x_add_s, x_add_l, x_add_t, x_sub, x_mod, x_div, x_pow, x_mul_i, x_mul_s, x_neg, x_cmp, x_eq, x_eq_s, x_eq_i, x_eq_b, x_eq_n, x_eq_ns, x_eq_sn, x_eq_is, x_eq_si, x_eq_ll, x_eq_t2, x_isN_n, x_isN_i, x_isN_s, x_isN_l, x_isN_t, x_in_s, x_in_sl, x_in_il, x_in_tl, x_in_st, x_in_it, x_len_s, x_len_l, x_len_t, x_ix_l, x_ix_t, x_ix_s, x_tup, x_lst, x_sl_s, x_sl_l, x_sl_t, x_append, x_extend, x_max_i, x_max_l, x_min, x_int_i, x_int_b, x_listOf_l, x_listOf_t, x_tupOf_l, x_tupOf_t, x_repr_i, x_repr_l, x_repr_t, x_map0, x_map1, x_app0, x_app1, x_set0, x_setS, x_get0, x_getS, x_Tr_num, x_Tr_cel, x_Tr_inn, x_Tr_op, x_forW0, x_forW1, x_lcW0, x_lcW1, x_drop1, x_drop0, x_dropn, x_take1s, x_take0, x_taken, x_ty_l, x_ty_t, x_ty_i, x_ty_b, x_ty_s, x_ty_d, x_rDisp, x_rDispN, x_sSetD, x_rGet2, x_rEnum, x_ixX_ds, x_ixX_di, x_ixX_l, x_ixX_t, x_ixX_s, x_inX_ds, x_inX_di, x_inX_s, x_inX_sl, x_inX_il, x_inX_tl, x_inX_st, x_inX_it, x_lenX_d, x_lenX_s, x_lenX_l, x_lenX_t, x_mulY_t, x_mulY_i, x_mulY_s, x_kD_i, x_kD_s, x_kP_i, x_kP_s, x_zip1, x_zip0, x_mClear, x_mReverse, x_enum0, x_scene_map, x_scene_len, x_Row_set, x_Row_tell, x_Row_ifr, x_Row_whl, x_Row_tms, x_bod_set, x_bod_tell, x_bod_ifr, x_bod_whl, x_bod_tms, x_enum1, x_enum2, x_wayO_some, x_wayO_none, x_i01, x_i11, x_sRaise1, x_sRaise0, x_sTry, x_rIs, x_rFld, x_rIsTu, x_tr_nx, x_tr_rt, x_tr_bk, x_tr_ct, x_tr_ex, x_su_nx, x_su_rt, x_su_bk, x_su_ct, x_isB, x_rp, x_held0, x_heldS, x_sUnp, x_sUnl, x_rRm, x_cnt, x_idx, x_sidx, x_tyOk_l, x_tyOk_s, x_tyOk_d, x_nc0, x_nc1, x_nc2, x_nc3, x_nc4, x_nc5, x_nc6, x_nc7, x_nc8, x_nc9, x_rRev, x_rZip, x_rsl0, x_rsl1, x_intX_s, x_intX_i, x_intX_b, x_strX_s, x_strX_i, List.map_nil, List.map_cons, List.cons_append, List.nil_append, List.append_nil, List.replicate_succ, List.replicate_zero, List.length_cons, List.length_nil, List.contains, List.elem, Nat.reduceBEq, Nat.reduceAdd, Nat.reduceSub, List.all_nil, List.all_cons, Int.reduceNeg, Int.reduceSub, Int.reduceAdd, id])
local macro_rules | `(tactic| trivial) => `(tactic| repeat (any_goals (first | ((with_reducible refine And.intro ?sd ?_); (case sd => (first | exact rfl | omega | assumption | (simp only [List.length_map, List.length_append, List.length_cons, List.length_nil, List.length_set, List.length_take, List.length_drop, List.length_range, List.length_reverse]; omega) | exact small (by omega) | exact cut_le (by omega) | exact sl_add (by first | omega | decide +kernel | exact cut_le (by omega) | exact up_le (by omega) | exact up_le (cut_le (by omega)) | exact app_le (by exact up_le4 (cut_le (by omega))) (by exact cut_le (by omega)) | exact app_le (by decide) (by omega) | exact app_le (by first | omega | exact cut_le (by omega)) (by first | omega | exact cut_le (by omega))) (by first | omega | decide +kernel | exact cut_le (by omega) | exact up_le (by omega) | exact up_le (cut_le (by omega)) | exact app_le (by exact up_le4 (cut_le (by omega))) (by exact cut_le (by omega)) | exact app_le (by decide) (by omega) | exact app_le (by first | omega | exact cut_le (by omega)) (by first | omega | exact cut_le (by omega))) | exact ⟨by omega, by omega⟩ | exact Or.inr ⟨by decide, by decide⟩ | exact Or.inl ⟨by omega, by omega⟩ | exact Or.inl ⟨by decide, by decide⟩ | exact ⟨by decide, by decide, by decide⟩ | exact small (by simp only [List.length_map, List.length_append, List.length_cons, List.length_nil, List.length_set, List.length_take, List.length_drop, List.length_range, List.length_reverse]; omega) | exact log_ok (by omega) (by omega) | (split <;> omega) | exact small (by rw [rowsD_len]; have := RowsIn.rlen (by assumption); omega) | exact small (by simp only [List.length_append, List.length_cons, List.length_nil, rowsD_len]; omega) | exact Nat.lt_of_lt_of_le (by simp only [List.length_append, List.length_cons, List.length_nil, rowsD_len, List.length_map]; omega : _ < 100000) (by decide) | rfl | decide))) | ((with_reducible refine' Exists.intro _ (And.intro put_scene ?_)); try decreasing_trivial) | ((with_reducible show sp_law_take _ _ _); (first | refine ⟨_, _, _, rfl, by decide, by decide, fun r a b r0 r1 => ?_⟩ | refine ⟨_, _, _, rfl, by omega, by omega, fun r a b r0 r1 => ?_⟩ | (refine ⟨_, _, _, rfl, by simp only [List.length_map]; omega, by simp only [List.length_map]; omega, fun r a b r0 r1 => ?_⟩; simp only [List.length_map] at r1)); try decreasing_trivial) | ((with_reducible show sp_law_feed _ _ _); (refine ⟨_, _, rfl, by omega, by omega, by omega, fun fa fb => ?_⟩); try decreasing_trivial) | ((with_reducible show sp_parts _ _ _ _); (refine ⟨_, rfl, by assumption, by assumption, ?_⟩); try decreasing_trivial) | ((with_reducible show sp_deep _ _ _ _); (refine ⟨_, rfl, by assumption, ?_⟩); try decreasing_trivial) | ((with_reducible show sp_cells _ _ _ _); (refine ⟨_, rfl, by assumption, by assumption, ?_⟩); try decreasing_trivial) | ((with_reducible show sp_law_number _ _ _); (refine ⟨_, _, rfl, fun nv a b n0 n1 => ?_⟩); try decreasing_trivial) | ((with_reducible show sp_law_names _ _ _); (refine ⟨_, _, _, rfl, by omega, by omega, fun ws a b wl wn => ?_⟩); try decreasing_trivial) | ((with_reducible show sp_law_scene _ _ _); (refine ⟨_, _, rfl, fun cs ms a b sc => ?_⟩); try decreasing_trivial) | ((with_reducible show sp_law_mark _ _ _); (refine ⟨_, _, _, rfl, by omega, by omega, by omega, fun m me => ?_⟩); try decreasing_trivial) | ((with_reducible show sp_law_term _ _ _ _); (refine ⟨_, _, _, _, _, _, _, rfl, by omega, by omega, by omega, by omega, by omega, by omega, fun t a b t1 t2 t3 => ?_⟩); try decreasing_trivial) | ((with_reducible show sp_law_row _ _ _ _); (refine ⟨_, _, _, _, _, _, _, rfl, by assumption, by omega, by omega, by omega, by omega, by omega, fun rw a b u l l0 ul ri uu => ?_⟩); try decreasing_trivial) | ((with_reducible show sp_law_body _ _ _ _); (refine ⟨_, _, _, _, _, _, _, rfl, by assumption, by omega, by omega, by omega, by omega, by omega, fun bd a b u l l0 ul ri uu une => ?_⟩); try decreasing_trivial) | ((with_reducible show sp_law_program _ _ _); (refine ⟨_, _, _, _, _, rfl, by assumption, by omega, by omega, fun pr a b u u0 u1 ri pne => ?_⟩); try decreasing_trivial) | ((with_reducible show sp_bodies_in _ _ _); (first | refine ⟨.set _ _ _, rfl, ?_⟩ | refine ⟨.tell _ _, rfl, ?_⟩ | refine ⟨.ifr _ _ _ _, rfl, ?_⟩ | (refine ⟨.whl _ _ _, by exact rfl, ?_⟩) | refine ⟨.tms _ _ _, rfl, ?_⟩ | refine ⟨_, rfl, ?_⟩); try decreasing_trivial) | ((with_reducible show sp_law_bodies _ _ _); (first | refine ⟨.set _ _ _, rfl, ?_⟩ | refine ⟨.tell _ _, rfl, ?_⟩ | refine ⟨.ifr _ _ _ _, rfl, ?_⟩ | (refine ⟨.whl _ _ _, by exact rfl, ?_⟩) | refine ⟨.tms _ _ _, rfl, ?_⟩ | refine ⟨_, rfl, ?_⟩); try decreasing_trivial) | ((with_reducible show sp_rows _ _ _ _); (refine ⟨_, rfl, by omega, by omega, ?_⟩); try decreasing_trivial) | ((with_reducible show sp_marks _ _ _ _); (refine ⟨_, rfl, by omega, by omega, ?_⟩); try decreasing_trivial) | ((with_reducible show sp_way_to _ _ _ _); (refine ⟨_, _, rfl, by omega, by omega, ?_⟩; (try simp only [ha]); (try simp only [hb])); try decreasing_trivial) | ((with_reducible show sp_spot _ _ _ _); (refine ⟨_, _, _, rfl, by assumption, by omega, by omega, ?_⟩; (try rw [esp])); try decreasing_trivial) | ((with_reducible show sp_loops _ _ _ _); (refine ⟨_, _, _, rfl, by assumption, by omega, by omega, ?_⟩); try decreasing_trivial) | ((with_reducible show sp_need_text er _ _ _); (refine ⟨_, _, rfl, fun q => ?_, fun q => ?_⟩); try decreasing_trivial) | ((with_reducible show sp_is_name _ _ _); (refine ⟨_, rfl, by omega, ?_⟩); try decreasing_trivial) | ((with_reducible show sp_is_number _ _ _); (refine ⟨_, rfl, by omega, ?_⟩); try decreasing_trivial) | ((with_reducible show sp_leaf_of er _ _ _); (refine ⟨_, _, _, rfl, by first | omega | (simp only [mkS_len]; omega), by first | exact mkS_l _ | rfl, fun t ht => ?_, fun ht => ?_⟩); try decreasing_trivial) | ((with_reducible show sp_term_at er _ _ _ _); (refine ⟨_, _, _, _, rfl, by omega, by omega, by omega, by first | assumption | rfl, by omega, fun t l ht => ?_, fun ht => ?_⟩); try decreasing_trivial) | ((with_reducible show sp_whole_term er _ _ _); (refine ⟨_, _, rfl, by omega, by omega, fun t ht => ?_, fun ht => ?_⟩); try decreasing_trivial) | ((with_reducible show sp_read_term er _ _ _); (refine ⟨_, rfl, by omega, by omega, fun t ht => ?_, fun ht => ?_⟩); try decreasing_trivial) | ((with_reducible show sp_term_text _ _ _ _); (refine ⟨_, rfl, by first | assumption | omega, by assumption, by omega, ?_⟩); try decreasing_trivial) | ((with_reducible show sp_law_term_text _ _ _ _); (refine ⟨_, rfl, by first | assumption | omega, by assumption, by omega, ?_⟩); try decreasing_trivial) | ((with_reducible show sp_law_kept _ _ _); (refine ⟨rfl, ?_⟩); try decreasing_trivial) | ((with_reducible show sp_law_word _ _ _); (refine ⟨_, _, rfl, fun wd a b wx => ?_⟩); try decreasing_trivial) | ((with_reducible show sp_law_any_term _ _ _ _); (first | refine ⟨_, _, _, _, _, rfl, by assumption, by assumption, by omega, by omega, by omega, by omega, fun t a b t1 t2 t3 => ?_⟩ | refine ⟨_, _, [_, _], _, _, rfl, by decide, by decide, by omega, by omega, by omega, by omega, fun t a b t1 t2 t3 => ?_⟩ | refine ⟨_, _, _, _, _, rfl, by assumption, by assumption, by omega, by omega, by omega, by omega, fun t a b t1 t2 t3 => ?_⟩ | refine ⟨_, _, _, _, _, rfl, by omega, by omega, by omega, by omega, by omega, by omega, fun t a b t1 t2 t3 => ?_⟩); try decreasing_trivial) | ((with_reducible show sp_law_alike _ _ _ _); (refine ⟨_, _, rfl, by assumption, by omega, ?_⟩); try decreasing_trivial) | ((with_reducible refine px_0 ?sd ?_); (case sd => (first | omega | (simp only [List.length_map, List.length_append, List.length_cons, List.length_nil, List.length_set, List.length_take, List.length_drop, List.length_range, List.length_reverse]; omega))); try decreasing_trivial) | ((with_reducible refine px_1 ?sd ?_); (case sd => (first | omega | (simp only [List.length_map, List.length_append, List.length_cons, List.length_nil, List.length_set, List.length_take, List.length_drop, List.length_range, List.length_reverse]; omega))); try decreasing_trivial) | ((with_reducible refine px_2 ?sd ?_); (case sd => (first | omega | (simp only [List.length_map, List.length_append, List.length_cons, List.length_nil, List.length_set, List.length_take, List.length_drop, List.length_range, List.length_reverse]; omega))); try decreasing_trivial) | ((with_reducible refine px_3 ?sd ?_); (case sd => (first | omega | (simp only [List.length_map, List.length_append, List.length_cons, List.length_nil, List.length_set, List.length_take, List.length_drop, List.length_range, List.length_reverse]; omega))); try decreasing_trivial) | ((with_reducible refine px_m1 ?sd ?_); (case sd => (first | omega | (simp only [List.length_map, List.length_append, List.length_cons, List.length_nil, List.length_set, List.length_take, List.length_drop, List.length_range, List.length_reverse]; omega))); try decreasing_trivial) | ((with_reducible refine px_i ?s1 ?s2 ?_); (case s1 => (first | omega | (simp only [List.length_map, List.length_append, List.length_cons, List.length_nil, List.length_set, List.length_take, List.length_drop, List.length_range, List.length_reverse]; omega))); (case s2 => (first | omega | (simp only [List.length_map, List.length_append, List.length_cons, List.length_nil, List.length_set, List.length_take, List.length_drop, List.length_range, List.length_reverse]; omega))); try decreasing_trivial) | ((with_reducible refine' ix_0 ?sd ?_); (case sd => exact rfl); try decreasing_trivial) | ((with_reducible refine' ix_1 ?sd ?_); (case sd => exact rfl); try decreasing_trivial) | ((with_reducible refine' ix_2 ?sd ?_); (case sd => exact rfl); try decreasing_trivial) | ((with_reducible refine' ix_3 ?sd ?_); (case sd => exact rfl); try decreasing_trivial) | ((with_reducible refine' ix_4 ?sd ?_); (case sd => exact rfl); try decreasing_trivial) | ((with_reducible refine' ix_5 ?sd ?_); (case sd => exact rfl); try decreasing_trivial) | ((with_reducible refine' ix_m1 ?sd ?_); (case sd => exact rfl); try decreasing_trivial) | ((with_reducible refine' ix_m2 ?sd ?_); (case sd => exact rfl); try decreasing_trivial) | (((rw [rqa])); try decreasing_trivial) | (((rw [rqb])); try decreasing_trivial) | (((rw [ewn])); try decreasing_trivial) | (((with_reducible refine' Exists.intro _ (And.intro rea ?_))); try decreasing_trivial) | (((with_reducible refine ix_am1 ?_)); try decreasing_trivial) | (((with_reducible refine ix_am2 ?_)); try decreasing_trivial) | ((((with_reducible refine ix_map ?s1 ?s2 (fun x mx me => ?_)); (case s1 => (first | omega | (simp only [List.length_map]; omega) | (simp only [List.length_map]; exact Int.emod_nonneg _ (by omega)) | (simp only [List.length_map]; exact Int.emod_lt_of_pos _ (by omega)))); (case s2 => (first | omega | (simp only [List.length_map]; omega) | (simp only [List.length_map]; exact Int.emod_nonneg _ (by omega)) | (simp only [List.length_map]; exact Int.emod_lt_of_pos _ (by omega)))))); try decreasing_trivial) | ((((with_reducible refine ix_lett ?s1 ?s2 ?_); (case s1 => omega); (case s2 => omega))); try decreasing_trivial) | ((((with_reducible refine ix_sgnM (m := 6) ?s0 ?s1 ?s2 (fun v mv => ?_)); (case s0 => decide +kernel); (case s1 => omega); (case s2 => omega))); try decreasing_trivial) | ((((with_reducible refine ix_sgnM (m := 7) ?s0 ?s1 ?s2 (fun v mv => ?_)); (case s0 => decide +kernel); (case s1 => omega); (case s2 => omega))); try decreasing_trivial) | ((((with_reducible refine ix_i2 ?s1 ?s2 (fun v vi => ?_)); (case s1 => omega); (case s2 => omega))); try decreasing_trivial) | ((((with_reducible refine ix_i3 ?s1 ?s2 (fun v vi => ?_)); (case s1 => omega); (case s2 => omega))); try decreasing_trivial) | ((((with_reducible refine ix_i6 ?s1 ?s2 (fun v vi => ?_)); (case s1 => omega); (case s2 => omega))); try decreasing_trivial) | ((((with_reducible refine ix_cons ?s1 (fun ei => ?_) (fun ei => ?_)); (case s1 => omega))); try decreasing_trivial) | ((((with_reducible refine ix_nil ?s1); (case s1 => omega))); try decreasing_trivial) | ((((with_reducible refine ix_let2 ?s1 ?s2 ?_); (case s1 => omega); (case s2 => omega))); try decreasing_trivial) | ((with_reducible refine' Exists.intro _ (And.intro ?sd ?_)); (case sd => exact rfl); try decreasing_trivial) | ((with_reducible refine iteB (fun c => ?_) (fun c => ?_)) <;> (try simp only [decide_eq_true_eq, decide_eq_false_iff_not, Bool.not_eq_true', Bool.not_eq_false', id, List.length_map, eqv_int, eqv_str, List.any_cons, List.any_nil, Bool.or_eq_true, Bool.or_false, Bool.or_eq_false_iff] at c) <;> (try exact absurd c (by assumption)) <;> (try exact absurd (by assumption) c) <;> (try exact absurd c (by decide +kernel)) <;> (try exact absurd (c.symm.trans (show _ = true by assumption)) (by decide)) <;> (try exact absurd (c.symm.trans (show _ = false by assumption)) (by decide)) <;> (try decreasing_trivial)) | ((with_reducible refine' Exists.intro _ (And.intro kit_bb ?_)); try decreasing_trivial) | ((with_reducible refine' Exists.intro _ (And.intro kit_ll ?_)); try decreasing_trivial) | ((with_reducible refine' Exists.intro _ (And.intro kit_tt ?_)); try decreasing_trivial) | ((with_reducible refine' Exists.intro _ (And.intro kit_dd ?_)); try decreasing_trivial) | ((with_reducible refine' Exists.intro _ (And.intro kit_ii ?_)); try decreasing_trivial) | ((with_reducible refine' Exists.intro _ (And.intro kit_ss ?_)); try decreasing_trivial) | ((with_reducible refine' Exists.intro _ (And.intro kit_ib ?_)); try decreasing_trivial) | ((with_reducible refine' Exists.intro _ (And.intro kit_bi ?_)); try decreasing_trivial) | ((with_reducible refine dv_hit ?sd ?_); (case sd => first | exact rfl | decide +kernel); try decreasing_trivial) | ((with_reducible refine dv_miss ?sd ?_); (case sd => decide +kernel); try decreasing_trivial) | ((first | rw [inx_set] | rw [inx_tell] | rw [inx_ifr] | rw [inx_whl] | rw [inx_tms]); try decreasing_trivial) | ((first | rw [cut_lo1] | rw [cut_hi1] | rw [cut_lo2] | rw [cut_hi2] | rw [cut_lo3] | rw [cut_hi3] | rw [cut_lo4] | rw [cut_hi4] | rw [cut_lo5] | rw [cut_hi5] | rw [cut_lo6] | rw [cut_hi6]); try decreasing_trivial))))
section
variable {P : Program} {w : World} {K : PySem.W.Frag} {mg : Str → Option Value} {base : Heap} {fa : Addr} {fd : FuncData}
abbrev s_leaf_of : Stmt := top 16
abbrev n_leaf_of : List Str := ["word", "at"]
theorem sc_leaf_of : FnScope n_leaf_of ["word", "at"] (defScope s_leaf_of) := ⟨rfl, rfl, rfl, by decide +kernel, rfl, by decide +kernel, by decide +kernel⟩
theorem ok_leaf_of {er : PySem.Str → Addr} (F : Fun K "leaf_of" "leaf_of" s_leaf_of fa fd) (c_need_text : DefOk P w K mg base "need_text" 1 ["good", "at"] [] (sp_need_text er)) (c_is_name : DefOk P w K mg base "is_name" 1 ["text"] [] sp_is_name) (c_is_number : DefOk P w K mg base "is_number" 1 ["word"] [] sp_is_number) (g_INS : GlOk K mg "INS" (.tuple [.str "in0", .str "in1", .str "in2"])) (z_int : mg "int" = none) :
    FnV P w K mg base 2 fa fd ["word", "at"] [] (sp_leaf_of er) := by
  refine FnV.of F sc_leaf_of (fun os k kx h => by obtain ⟨x, i, l, rfl, _⟩ := h; rfl) fun cdv A outer s H E hg hr => ⟨_, _, (js_cons (js_if (jt_cmp (op_inXX (u65 hr)) ok_inX (by rfl) (je_var 0) (je_gl g_INS rfl)) (js_one (js_ret (je_tup (ja_cons je_str (ja_cons (je_Ty call_intX ok_intX rfl z_int (by decide +kernel) (ja_cons (je_ix (ix_X (u1 hr)) ok_ixX (je_var 0) je_int (fun _ _ => rfl)) ja_nil)) ja_nil))))) js_nil)
      (js_cons (js_if (jt_val (je_call [] c_is_number hg hr (by first | decide | exact Nat.le_refl _ | omega) (takes_of rfl rfl rfl rfl) rfl (ja_cons (je_var 0) ja_nil))) (js_one (js_ret (je_tup (ja_cons je_str (ja_cons (je_Ty call_intX ok_intX rfl z_int (by decide +kernel) (ja_cons (je_var 0) ja_nil)) ja_nil))))) js_nil)
      (js_cons (js_expr (je_call [] c_need_text hg hr (by first | decide | exact Nat.le_refl _ | omega) (takes_of rfl rfl rfl rfl) rfl (ja_cons (je_call [] c_is_name hg hr (by first | decide | exact Nat.le_refl _ | omega) (takes_of rfl rfl rfl rfl) rfl (ja_cons (je_var 0) ja_nil)) (ja_cons (je_var 1) ja_nil))))
      (js_one (js_ret (je_tup (ja_cons je_str (ja_cons (je_var 0) ja_nil)))))))), fun os kk kx h => ?_⟩
  obtain ⟨x, i, l, rfl, h0, rfl, k1, k2⟩ := h
  try dsimp only [n_leaf_of, List.length_cons, List.length_nil, Nat.reduceAdd, Nat.reduceSub]
  try decreasing_trivial
  trivial
  · obtain ⟨c, n, e1, e2, e3⟩ := in_w2 x (c.imp Eq.symm fun h => h.imp Eq.symm Eq.symm)
    exact ⟨c, e1, n, e2, (show (1 : Nat) ≤ 640 by decide), by decide, k1 _ e3⟩
  · rename_i c1
    exact ⟨_, (num_int c).1, (num_int c).2, by decide, k1 _ (leaf_1 c1 c)⟩
  · exact k1 _ (leaf_2 (by assumption) (by assumption) q)
  · exact k2 (leaf_3 (by assumption) (by assumption) q)
end
end KR

namespace KR
open PySem PySem.Spec PyProof.Rows L2 VL
set_option hygiene false
local macro_rules | `(tactic| decreasing_trivial) => `(tactic| dsimp only [x_aNil, x_aCons, x_rOp, x_rOu, x_rVar, x_rC, x_rT, x_rTand, x_rTor, x_rTnot, x_rAnd, x_rOr, x_rNot, x_rIf, x_rOt, x_rNewD, x_rSlLU, x_rSlL, x_rSlU, x_rChain, x_sNil, x_sSeq, x_sBreak, x_sCont, x_sExpr, x_sRet, x_sRetN, x_sIf, x_sSet, x_rMv, x_rFz, x_rMt, x_rMr, x_sSetL, x_rCall, x_bName, x_bTup, x_rSeq, x_rRange1, x_rRange2, x_sFor, x_rLc, x_rYes, x_rIsi1, x_rM0, x_rM1, x_aLate, x_sPar, x_sAug, x_tt, x_ff, x_bNames0, x_bNames1, x_lcT, x_wipe0, x_wipe1, x_AN_of_nx, x_AN_of_rt, x_AN_of_ex, x_seq_nx, x_seq_rt, x_seq_bk, x_seq_ct, x_seq_ex, x_loop_nx, x_loop_rt, x_loop_bk, x_loop_ct, x_loop_ex, x_grd_p, x_grd_ow, x_grd_sl, x_grd_vw, x_vwO_p, x_vwO_ls, x_vwO_lo, x_vwO_dc, x_vwO_dco, x_vwO_ins, x_vwO_fl, x_datL0, x_datL1, x_dat_p, x_dat_sl, x_dat_vw, x_dat_ow, x_sh_p, x_sh_ls, x_sh_dc, x_datu_p, x_datu_ls, x_datu_dc, x_datu_fl, x_datu_vw, x_datu_ow, x_takes0, x_takes_p, x_takes_ow, x_map_some, x_frz_p, x_frz_ls, x_frz_dc, x_take1_p, x_take1_ow, x_own1_p, x_own1_ow, x_slots_p, x_slots_sl, x_slots_ow, x_vwp_sl, x_vwp_vw, x_toO_p, x_toO_sl, x_toO_ow, x_wb_sl, x_wb_p, x_wb_ow, x_wb0, x_wb00, x_seqM_list, x_seqM_tuple, x_seqM_str, x_isI, x_all, x_any, x_join_l, x_join_t, x_add_i, x_add_s, x_add_l, x_add_t, x_sub, x_mod, x_div, x_pow, x_mul_i, x_mul_s, x_neg, x_cmp, x_eq, x_eq_s, x_eq_i, x_eq_b, x_eq_n, x_eq_ns, x_eq_sn, x_eq_is, x_eq_si, x_eq_ll, x_eq_t2, x_isN_n, x_isN_i, x_isN_s, x_isN_l, x_isN_t, x_in_s, x_in_sl, x_in_il, x_in_tl, x_in_st, x_in_it, x_len_s, x_len_l, x_len_t, x_ix_l, x_ix_t, x_ix_s, x_tup, x_lst, x_sl_s, x_sl_l, x_sl_t, x_append, x_extend, x_max_i, x_max_l, x_min, x_int_i, x_int_b, x_listOf_l, x_listOf_t, x_tupOf_l, x_tupOf_t, x_repr_i, x_repr_l, x_repr_t, x_map0, x_map1, x_app0, x_app1, x_set0, x_setS, x_get0, x_getS, x_Tr_num, x_Tr_cel, x_Tr_inn, x_Tr_op, x_forW0, x_forW1, x_lcW0, x_lcW1, x_drop1, x_drop0, x_dropn, x_take1s, x_take0, x_taken, x_ty_l, x_ty_t, x_ty_i, x_ty_b, x_ty_s, x_ty_d, x_rDisp, x_rDispN, x_sSetD, x_rGet2, x_rEnum, x_ixX_ds, x_ixX_di, x_ixX_l, x_ixX_t, x_ixX_s, x_inX_ds, x_inX_di, x_inX_s, x_inX_sl, x_inX_il, x_inX_tl, x_inX_st, x_inX_it, x_lenX_d, x_lenX_s, x_lenX_l, x_lenX_t, x_mulY_t, x_mulY_i, x_mulY_s, x_kD_i, x_kD_s, x_kP_i, x_kP_s, x_zip1, x_zip0, x_mClear, x_mReverse, x_enum0, x_scene_map, x_scene_len, x_Row_set, x_Row_tell, x_Row_ifr, x_Row_whl, x_Row_tms, x_bod_set, x_bod_tell, x_bod_ifr, x_bod_whl, x_bod_tms, x_enum1, x_enum2, x_wayO_some, x_wayO_none, x_i01, x_i11, x_sRaise1, x_sRaise0, x_sTry, x_rIs, x_rFld, x_rIsTu, x_tr_nx, x_tr_rt, x_tr_bk, x_tr_ct, x_tr_ex, x_su_nx, x_su_rt, x_su_bk, x_su_ct, x_isB, x_rp, x_held0, x_heldS, x_sUnp, x_sUnl, x_rRm, x_cnt, x_idx, x_sidx, x_tyOk_l, x_tyOk_s, x_tyOk_d, x_nc0, x_nc1, x_nc2, x_nc3, x_nc4, x_nc5, x_nc6, x_nc7, x_nc8, x_nc9, x_rRev, x_rZip, x_rsl0, x_rsl1, x_intX_s, x_intX_i, x_intX_b, x_strX_s, x_strX_i, List.map_nil, List.map_cons, List.cons_append, List.nil_append, List.append_nil, List.replicate_succ, List.replicate_zero, List.length_cons, List.length_nil, List.contains, List.elem, Nat.reduceBEq, Nat.reduceAdd, Nat.reduceSub, List.all_nil, List.all_cons, Int.reduceNeg, Int.reduceSub, Int.reduceAdd, id])
local macro_rules | `(tactic| trivial) => `(tactic| repeat (any_goals (first | ((with_reducible refine And.intro ?sd ?_); (case sd => (first | exact rfl | omega | assumption | (simp only [List.length_map, List.length_append, List.length_cons, List.length_nil, List.length_set, List.length_take, List.length_drop, List.length_range, List.length_reverse]; omega) | exact small (by omega) | exact cut_le (by omega) | exact sl_add (by first | omega | decide +kernel | exact cut_le (by omega) | exact up_le (by omega) | exact up_le (cut_le (by omega)) | exact app_le (by exact up_le4 (cut_le (by omega))) (by exact cut_le (by omega)) | exact app_le (by decide) (by omega) | exact app_le (by first | omega | exact cut_le (by omega)) (by first | omega | exact cut_le (by omega))) (by first | omega | decide +kernel | exact cut_le (by omega) | exact up_le (by omega) | exact up_le (cut_le (by omega)) | exact app_le (by exact up_le4 (cut_le (by omega))) (by exact cut_le (by omega)) | exact app_le (by decide) (by omega) | exact app_le (by first | omega | exact cut_le (by omega)) (by first | omega | exact cut_le (by omega))) | exact ⟨by omega, by omega⟩ | exact Or.inr ⟨by decide, by decide⟩ | exact Or.inl ⟨by omega, by omega⟩ | exact Or.inl ⟨by decide, by decide⟩ | exact ⟨by decide, by decide, by decide⟩ | exact small (by simp only [List.length_map, List.length_append, List.length_cons, List.length_nil, List.length_set, List.length_take, List.length_drop, List.length_range, List.length_reverse]; omega) | exact log_ok (by omega) (by omega) | (split <;> omega) | exact small (by rw [rowsD_len]; have := RowsIn.rlen (by assumption); omega) | exact small (by simp only [List.length_append, List.length_cons, List.length_nil, rowsD_len]; omega) | exact Nat.lt_of_lt_of_le (by simp only [List.length_append, List.length_cons, List.length_nil, rowsD_len, List.length_map]; omega : _ < 100000) (by decide) | rfl | decide))) | ((with_reducible refine' Exists.intro _ (And.intro put_scene ?_)); try decreasing_trivial) | ((with_reducible show sp_law_take _ _ _); (first | refine ⟨_, _, _, rfl, by decide, by decide, fun r a b r0 r1 => ?_⟩ | refine ⟨_, _, _, rfl, by omega, by omega, fun r a b r0 r1 => ?_⟩ | (refine ⟨_, _, _, rfl, by simp only [List.length_map]; omega, by simp only [List.length_map]; omega, fun r a b r0 r1 => ?_⟩; simp only [List.length_map] at r1)); try decreasing_trivial) | ((with_reducible show sp_law_feed _ _ _); (refine ⟨_, _, rfl, by omega, by omega, by omega, fun fa fb => ?_⟩); try decreasing_trivial) | ((with_reducible show sp_parts _ _ _ _); (refine ⟨_, rfl, by assumption, by assumption, ?_⟩); try decreasing_trivial) | ((with_reducible show sp_deep _ _ _ _); (refine ⟨_, rfl, by assumption, ?_⟩); try decreasing_trivial) | ((with_reducible show sp_cells _ _ _ _); (refine ⟨_, rfl, by assumption, by assumption, ?_⟩); try decreasing_trivial) | ((with_reducible show sp_law_number _ _ _); (refine ⟨_, _, rfl, fun nv a b n0 n1 => ?_⟩); try decreasing_trivial) | ((with_reducible show sp_law_names _ _ _); (refine ⟨_, _, _, rfl, by omega, by omega, fun ws a b wl wn => ?_⟩); try decreasing_trivial) | ((with_reducible show sp_law_scene _ _ _); (refine ⟨_, _, rfl, fun cs ms a b sc => ?_⟩); try decreasing_trivial) | ((with_reducible show sp_law_mark _ _ _); (refine ⟨_, _, _, rfl, by omega, by omega, by omega, fun m me => ?_⟩); try decreasing_trivial) | ((with_reducible show sp_law_term _ _ _ _); (refine ⟨_, _, _, _, _, _, _, rfl, by omega, by omega, by omega, by omega, by omega, by omega, fun t a b t1 t2 t3 => ?_⟩); try decreasing_trivial) | ((with_reducible show sp_law_row _ _ _ _); (refine ⟨_, _, _, _, _, _, _, rfl, by assumption, by omega, by omega, by omega, by omega, by omega, fun rw a b u l l0 ul ri uu => ?_⟩); try decreasing_trivial) | ((with_reducible show sp_law_body _ _ _ _); (refine ⟨_, _, _, _, _, _, _, rfl, by assumption, by omega, by omega, by omega, by omega, by omega, fun bd a b u l l0 ul ri uu une => ?_⟩); try decreasing_trivial) | ((with_reducible show sp_law_program _ _ _); (refine ⟨_, _, _, _, _, rfl, by assumption, by omega, by omega, fun pr a b u u0 u1 ri pne => ?_⟩); try decreasing_trivial) | ((with_reducible show sp_bodies_in _ _ _); (first | refine ⟨.set _ _ _, rfl, ?_⟩ | refine ⟨.tell _ _, rfl, ?_⟩ | refine ⟨.ifr _ _ _ _, rfl, ?_⟩ | (refine ⟨.whl _ _ _, by exact rfl, ?_⟩) | refine ⟨.tms _ _ _, rfl, ?_⟩ | refine ⟨_, rfl, ?_⟩); try decreasing_trivial) | ((with_reducible show sp_law_bodies _ _ _); (first | refine ⟨.set _ _ _, rfl, ?_⟩ | refine ⟨.tell _ _, rfl, ?_⟩ | refine ⟨.ifr _ _ _ _, rfl, ?_⟩ | (refine ⟨.whl _ _ _, by exact rfl, ?_⟩) | refine ⟨.tms _ _ _, rfl, ?_⟩ | refine ⟨_, rfl, ?_⟩); try decreasing_trivial) | ((with_reducible show sp_rows _ _ _ _); (refine ⟨_, rfl, by omega, by omega, ?_⟩); try decreasing_trivial) | ((with_reducible show sp_marks _ _ _ _); (refine ⟨_, rfl, by omega, by omega, ?_⟩); try decreasing_trivial) | ((with_reducible show sp_way_to _ _ _ _); (refine ⟨_, _, rfl, by omega, by omega, ?_⟩; (try simp only [ha]); (try simp only [hb])); try decreasing_trivial) | ((with_reducible show sp_spot _ _ _ _); (refine ⟨_, _, _, rfl, by assumption, by omega, by omega, ?_⟩; (try rw [esp])); try decreasing_trivial) | ((with_reducible show sp_loops _ _ _ _); (refine ⟨_, _, _, rfl, by assumption, by omega, by omega, ?_⟩); try decreasing_trivial) | ((with_reducible show sp_need_text er _ _ _); (refine ⟨_, _, rfl, fun q => ?_, fun q => ?_⟩); try decreasing_trivial) | ((with_reducible show sp_is_name _ _ _); (refine ⟨_, rfl, by omega, ?_⟩); try decreasing_trivial) | ((with_reducible show sp_is_number _ _ _); (refine ⟨_, rfl, by omega, ?_⟩); try decreasing_trivial) | ((with_reducible show sp_leaf_of er _ _ _); (refine ⟨_, _, _, rfl, by first | omega | (simp only [mkS_len]; omega), by first | exact mkS_l _ | rfl, fun t ht => ?_, fun ht => ?_⟩); try decreasing_trivial) | ((with_reducible show sp_term_at er _ _ _ _); (refine ⟨_, _, _, _, rfl, by omega, by omega, by omega, by first | assumption | rfl, by omega, fun t l ht => ?_, fun ht => ?_⟩); try decreasing_trivial) | ((with_reducible show sp_whole_term er _ _ _); (refine ⟨_, _, rfl, by omega, by omega, fun t ht => ?_, fun ht => ?_⟩); try decreasing_trivial) | ((with_reducible show sp_read_term er _ _ _); (refine ⟨_, rfl, by omega, by omega, fun t ht => ?_, fun ht => ?_⟩); try decreasing_trivial) | ((with_reducible show sp_term_text _ _ _ _); (refine ⟨_, rfl, by first | assumption | omega, by assumption, by omega, ?_⟩); try decreasing_trivial) | ((with_reducible show sp_law_term_text _ _ _ _); (refine ⟨_, rfl, by first | assumption | omega, by assumption, by omega, ?_⟩); try decreasing_trivial) | ((with_reducible show sp_law_kept _ _ _); (refine ⟨rfl, ?_⟩); try decreasing_trivial) | ((with_reducible show sp_law_word _ _ _); (refine ⟨_, _, rfl, fun wd a b wx => ?_⟩); try decreasing_trivial) | ((with_reducible show sp_law_any_term _ _ _ _); (first | refine ⟨_, _, _, _, _, rfl, by assumption, by assumption, by omega, by omega, by omega, by omega, fun t a b t1 t2 t3 => ?_⟩ | refine ⟨_, _, [_, _], _, _, rfl, by decide, by decide, by omega, by omega, by omega, by omega, fun t a b t1 t2 t3 => ?_⟩ | refine ⟨_, _, _, _, _, rfl, by assumption, by assumption, by omega, by omega, by omega, by omega, fun t a b t1 t2 t3 => ?_⟩ | refine ⟨_, _, _, _, _, rfl, by omega, by omega, by omega, by omega, by omega, by omega, fun t a b t1 t2 t3 => ?_⟩); try decreasing_trivial) | ((with_reducible show sp_law_alike _ _ _ _); (refine ⟨_, _, rfl, by assumption, by omega, ?_⟩); try decreasing_trivial) | ((with_reducible refine px_0 ?sd ?_); (case sd => (first | omega | (simp only [List.length_map, List.length_append, List.length_cons, List.length_nil, List.length_set, List.length_take, List.length_drop, List.length_range, List.length_reverse]; omega))); try decreasing_trivial) | ((with_reducible refine px_1 ?sd ?_); (case sd => (first | omega | (simp only [List.length_map, List.length_append, List.length_cons, List.length_nil, List.length_set, List.length_take, List.length_drop, List.length_range, List.length_reverse]; omega))); try decreasing_trivial) | ((with_reducible refine px_2 ?sd ?_); (case sd => (first | omega | (simp only [List.length_map, List.length_append, List.length_cons, List.length_nil, List.length_set, List.length_take, List.length_drop, List.length_range, List.length_reverse]; omega))); try decreasing_trivial) | ((with_reducible refine px_3 ?sd ?_); (case sd => (first | omega | (simp only [List.length_map, List.length_append, List.length_cons, List.length_nil, List.length_set, List.length_take, List.length_drop, List.length_range, List.length_reverse]; omega))); try decreasing_trivial) | ((with_reducible refine px_m1 ?sd ?_); (case sd => (first | omega | (simp only [List.length_map, List.length_append, List.length_cons, List.length_nil, List.length_set, List.length_take, List.length_drop, List.length_range, List.length_reverse]; omega))); try decreasing_trivial) | ((with_reducible refine px_i ?s1 ?s2 ?_); (case s1 => (first | omega | (simp only [List.length_map, List.length_append, List.length_cons, List.length_nil, List.length_set, List.length_take, List.length_drop, List.length_range, List.length_reverse]; omega))); (case s2 => (first | omega | (simp only [List.length_map, List.length_append, List.length_cons, List.length_nil, List.length_set, List.length_take, List.length_drop, List.length_range, List.length_reverse]; omega))); try decreasing_trivial) | ((with_reducible refine' ix_0 ?sd ?_); (case sd => exact rfl); try decreasing_trivial) | ((with_reducible refine' ix_1 ?sd ?_); (case sd => exact rfl); try decreasing_trivial) | ((with_reducible refine' ix_2 ?sd ?_); (case sd => exact rfl); try decreasing_trivial) | ((with_reducible refine' ix_3 ?sd ?_); (case sd => exact rfl); try decreasing_trivial) | ((with_reducible refine' ix_4 ?sd ?_); (case sd => exact rfl); try decreasing_trivial) | ((with_reducible refine' ix_5 ?sd ?_); (case sd => exact rfl); try decreasing_trivial) | ((with_reducible refine' ix_m1 ?sd ?_); (case sd => exact rfl); try decreasing_trivial) | ((with_reducible refine' ix_m2 ?sd ?_); (case sd => exact rfl); try decreasing_trivial) | (((rw [rqa])); try decreasing_trivial) | (((rw [rqb])); try decreasing_trivial) | (((rw [ewn])); try decreasing_trivial) | (((with_reducible refine' Exists.intro _ (And.intro rea ?_))); try decreasing_trivial) | (((with_reducible refine ix_am1 ?_)); try decreasing_trivial) | (((with_reducible refine ix_am2 ?_)); try decreasing_trivial) | ((((with_reducible refine ix_map ?s1 ?s2 (fun x mx me => ?_)); (case s1 => (first | omega | (simp only [List.length_map]; omega) | (simp only [List.length_map]; exact Int.emod_nonneg _ (by omega)) | (simp only [List.length_map]; exact Int.emod_lt_of_pos _ (by omega)))); (case s2 => (first | omega | (simp only [List.length_map]; omega) | (simp only [List.length_map]; exact Int.emod_nonneg _ (by omega)) | (simp only [List.length_map]; exact Int.emod_lt_of_pos _ (by omega)))))); try decreasing_trivial) | ((((with_reducible refine ix_lett ?s1 ?s2 ?_); (case s1 => omega); (case s2 => omega))); try decreasing_trivial) | ((((with_reducible refine ix_sgnM (m := 6) ?s0 ?s1 ?s2 (fun v mv => ?_)); (case s0 => decide +kernel); (case s1 => omega); (case s2 => omega))); try decreasing_trivial) | ((((with_reducible refine ix_sgnM (m := 7) ?s0 ?s1 ?s2 (fun v mv => ?_)); (case s0 => decide +kernel); (case s1 => omega); (case s2 => omega))); try decreasing_trivial) | ((((with_reducible refine ix_i2 ?s1 ?s2 (fun v vi => ?_)); (case s1 => omega); (case s2 => omega))); try decreasing_trivial) | ((((with_reducible refine ix_i3 ?s1 ?s2 (fun v vi => ?_)); (case s1 => omega); (case s2 => omega))); try decreasing_trivial) | ((((with_reducible refine ix_i6 ?s1 ?s2 (fun v vi => ?_)); (case s1 => omega); (case s2 => omega))); try decreasing_trivial) | ((((with_reducible refine ix_cons ?s1 (fun ei => ?_) (fun ei => ?_)); (case s1 => omega))); try decreasing_trivial) | ((((with_reducible refine ix_nil ?s1); (case s1 => omega))); try decreasing_trivial) | ((((with_reducible refine ix_let2 ?s1 ?s2 ?_); (case s1 => omega); (case s2 => omega))); try decreasing_trivial) | ((with_reducible refine' Exists.intro _ (And.intro ?sd ?_)); (case sd => exact rfl); try decreasing_trivial) | ((with_reducible refine iteB (fun c => ?_) (fun c => ?_)) <;> (try simp only [decide_eq_true_eq, decide_eq_false_iff_not, Bool.not_eq_true', Bool.not_eq_false', id, List.length_map, eqv_int, eqv_str, List.any_cons, List.any_nil, Bool.or_eq_true, Bool.or_false, Bool.or_eq_false_iff] at c) <;> (try exact absurd c (by assumption)) <;> (try exact absurd (by assumption) c) <;> (try exact absurd c (by decide +kernel)) <;> (try exact absurd (c.symm.trans (show _ = true by assumption)) (by decide)) <;> (try exact absurd (c.symm.trans (show _ = false by assumption)) (by decide)) <;> (try decreasing_trivial)) | ((with_reducible refine' Exists.intro _ (And.intro kit_bb ?_)); try decreasing_trivial) | ((with_reducible refine' Exists.intro _ (And.intro kit_ll ?_)); try decreasing_trivial) | ((with_reducible refine' Exists.intro _ (And.intro kit_tt ?_)); try decreasing_trivial) | ((with_reducible refine' Exists.intro _ (And.intro kit_dd ?_)); try decreasing_trivial) | ((with_reducible refine' Exists.intro _ (And.intro kit_ii ?_)); try decreasing_trivial) | ((with_reducible refine' Exists.intro _ (And.intro kit_ss ?_)); try decreasing_trivial) | ((with_reducible refine' Exists.intro _ (And.intro kit_ib ?_)); try decreasing_trivial) | ((with_reducible refine' Exists.intro _ (And.intro kit_bi ?_)); try decreasing_trivial) | ((with_reducible refine dv_hit ?sd ?_); (case sd => first | exact rfl | decide +kernel); try decreasing_trivial) | ((with_reducible refine dv_miss ?sd ?_); (case sd => decide +kernel); try decreasing_trivial) | ((first | rw [inx_set] | rw [inx_tell] | rw [inx_ifr] | rw [inx_whl] | rw [inx_tms]); try decreasing_trivial) | ((first | rw [cut_lo1] | rw [cut_hi1] | rw [cut_lo2] | rw [cut_hi2] | rw [cut_lo3] | rw [cut_hi3] | rw [cut_lo4] | rw [cut_hi4] | rw [cut_lo5] | rw [cut_hi5] | rw [cut_lo6] | rw [cut_hi6]); try decreasing_trivial))))
section
variable {P : Program} {w : World} {K : PySem.W.Frag} {mg : Str → Option Value} {base : Heap} {fa : Addr} {fd : FuncData}
abbrev s_term_at : Stmt := top 17
abbrev n_term_at : List Str := ["text", "begin", "at", "sign", "end", "one", "other"]
theorem sc_term_at : FnScope n_term_at ["text", "begin", "at"] (defScope s_term_at) := ⟨rfl, rfl, rfl, by decide +kernel, rfl, by decide +kernel, by decide +kernel⟩
theorem ok_term_at {er : PySem.Str → Addr} {n : Nat} (F : Fun K "term_at" "term_at" s_term_at fa fd) (c_need_text : DefOk P w K mg base "need_text" 1 ["good", "at"] [] (sp_need_text er)) (c_term_at : DefOk P w K mg base "term_at" (n + 2) ["text", "begin", "at"] [] (sp_term_at er n)) (c_leaf_of : DefOk P w K mg base "leaf_of" 2 ["word", "at"] [] (sp_leaf_of er)) (g_SIGNS : GlOk K mg "SIGNS" (.str "+-*:<=")) (z_len : mg "len" = none) :
    FnV P w K mg base (n + 3) fa fd ["text", "begin", "at"] [] (sp_term_at er (n + 1)) := by
  refine FnV.of F sc_term_at (fun os k kx h => by obtain ⟨x, b, i, l, rfl, _⟩ := h; rfl) fun cdv A outer s H E hg hr => ⟨_, _, (js_cons (js_if (jt_cmp (op_neX hr.units) ok_ne (nomark _) (je_slLU (je_var 0) (je_var 1) (je_bin op_addX ok_add (je_var 1) je_int)) je_str) (js_cons (js_set (i := 4) rfl sc_term_at.nd rfl (Or.inl rfl) (je_var 1))
      (js_cons (js_while (passes_of rfl) (JW.t (jw_and (jt_cmp op_lt ok_cmpI (nomark _) (je_var 4) (je_B call_lenX ok_lenX rfl z_len PySem.boot_len (ja_cons (je_var 0) ja_nil))) (jw_and1 (jt_cmp (op_niXX (u65 hr)) ok_niX (by rfl) (je_ix (ix_X (u1 hr)) ok_ixX (je_var 0) (je_var 4) (fun _ _ => rfl)) je_str)))) (js_one (js_set (i := 4) rfl sc_term_at.nd rfl (Or.inl rfl) (je_bin op_addX ok_add (je_var 4) je_int))))
      (js_one (js_ret (je_tup (ja_cons (je_call [] c_leaf_of hg hr (by first | decide | exact Nat.le_refl _ | omega) (takes_of rfl rfl rfl rfl) rfl (ja_cons (je_slLU (je_var 0) (je_var 1) (je_var 4)) (ja_cons (je_var 2) ja_nil))) (ja_cons (je_var 4) ja_nil))))))) js_nil)
      (js_cons (js_set (i := 3) rfl sc_term_at.nd rfl (Or.inl rfl) (je_slLU (je_var 0) (je_bin op_addX ok_add (je_var 1) je_int) (je_bin op_addX ok_add (je_var 1) je_int)))
      (js_cons (js_expr (je_call [] c_need_text hg hr (by first | decide | exact Nat.le_refl _ | omega) (takes_of rfl rfl rfl rfl) rfl (ja_cons (je_and (je_cmp (op_neX hr.units) ok_ne (nomark _) (je_var 3) je_str) (je_and (je_cmp (op_inXX (u65 hr)) ok_inX (by rfl) (je_var 3) (je_gl g_SIGNS rfl)) (je_one (je_cmp (op_eqX hr.units) ok_eq (nomark _) (je_slLU (je_var 0) (je_bin op_addX ok_add (je_var 1) je_int) (je_bin op_addX ok_add (je_var 1) je_int)) je_str)))) (ja_cons (je_var 2) ja_nil))))
      (js_cons (js_unp (je_call [] c_term_at hg hr (by first | decide | exact Nat.le_refl _ | omega) (takes_of rfl rfl rfl rfl) rfl (ja_cons (je_var 0) (ja_cons (je_bin op_addX ok_add (je_var 1) je_int) (ja_cons (je_var 2) ja_nil)))) (jg_tup rfl (jgs_cons (i := 5) rfl sc_term_at.nd rfl (Or.inl rfl) (jgs_cons (i := 4) rfl sc_term_at.nd rfl (Or.inl rfl) jgs_nil)) rfl))
      (js_cons (js_expr (je_call [] c_need_text hg hr (by first | decide | exact Nat.le_refl _ | omega) (takes_of rfl rfl rfl rfl) rfl (ja_cons (je_cmp (op_eqX hr.units) ok_eq (nomark _) (je_slLU (je_var 0) (je_var 4) (je_bin op_addX ok_add (je_var 4) je_int)) je_str) (ja_cons (je_var 2) ja_nil))))
      (js_cons (js_unp (je_call [] c_term_at hg hr (by first | decide | exact Nat.le_refl _ | omega) (takes_of rfl rfl rfl rfl) rfl (ja_cons (je_var 0) (ja_cons (je_bin op_addX ok_add (je_var 4) je_int) (ja_cons (je_var 2) ja_nil)))) (jg_tup rfl (jgs_cons (i := 6) rfl sc_term_at.nd rfl (Or.inl rfl) (jgs_cons (i := 4) rfl sc_term_at.nd rfl (Or.inl rfl) jgs_nil)) rfl))
      (js_cons (js_expr (je_call [] c_need_text hg hr (by first | decide | exact Nat.le_refl _ | omega) (takes_of rfl rfl rfl rfl) rfl (ja_cons (je_cmp (op_eqX hr.units) ok_eq (nomark _) (je_slLU (je_var 0) (je_var 4) (je_bin op_addX ok_add (je_var 4) je_int)) je_str) (ja_cons (je_var 2) ja_nil))))
      (js_one (js_ret (je_tup (ja_cons (je_tup (ja_cons je_str (ja_cons (je_var 3) (ja_cons (je_var 5) (ja_cons (je_var 6) ja_nil))))) (ja_cons (je_bin op_addX ok_add (je_var 4) je_int) ja_nil)))))))))))), fun os kk kx h => ?_⟩
  obtain ⟨x, b, i, l, rfl, h0, b0, b1, hl, hc, k1, k2⟩ := h
  by_cases hh : l.head? = some 40
  · obtain ⟨l0, rfl⟩ := head_cons hh
    have q0 : cutS x (some b) (some (b + 1)) = "(" := (cut_is sgs.1 b0 hl).mpr hh
    have dr1 : x.cps.toList.drop (b + 1).toNat = l0 := drop_more (p := [40]) hl b0 rfl
    have ll0 := congrArg List.length hl
    rw [List.length_drop, ← VL.len_list, List.length_cons] at ll0
    cases l0 with
    | nil =>
      have rqa : cutS x (some (b + 1)) (some (b + 2)) = "" := (cut_lst (by omega) (by omega) dr1).trans (by decide +kernel)
      try dsimp only [n_term_at, List.length_cons, List.length_nil, Nat.reduceAdd, Nat.reduceSub]
      try decreasing_trivial
      trivial
      all_goals first | exact k2 rd_r0 | exact absurd q Bool.false_ne_true | trace_state
    | cons c l1 =>
      rw [List.length_cons] at ll0
      have rqa : cutS x (some (b + 1)) (some (b + 2)) = sg c := cut_sg (by omega) (by omega) dr1
      have dr2 : x.cps.toList.drop (b + 2).toNat = l1 := drop_more (p := [40, c]) hl b0 rfl
      have n1 := sg_ne_empty (c := c)
      by_cases hs : c ∈ sixL
      · have hs' : (sg c).cps.getD 0 0 ∈ (Str.ofString "+-*:<=").cps.toList := by
          rw [show (Str.ofString "+-*:<=").cps.toList = sixL by decide +kernel]
          exact hs
        by_cases h32 : l1.head? = some 32
        · obtain ⟨l1', rfl⟩ := head_cons h32
          rw [List.length_cons] at ll0
          have q2 : cutS x (some (b + 2)) (some (b + 3)) = " " := by
            have := (cut_is (x := x) sgs.2.2 (show 0 ≤ b + 2 by omega) dr2).mpr h32
            rwa [show b + 2 + 1 = b + 3 by omega] at this
          have dr3 : x.cps.toList.drop (b + 3).toNat = l1' := drop_more (p := [40, c, 32]) hl b0 rfl
          have cn : l1'.count 40 < n := by
            rw [List.count_cons_self] at hc
            have := cnt_suf (p := [c, 32]) (l := c :: 32 :: l1') (l' := l1') rfl
            omega
          try dsimp only [n_term_at, List.length_cons, List.length_nil, Nat.reduceAdd, Nat.reduceSub]
          try decreasing_trivial
          trivial
          · have ht1 := ht
            obtain ⟨p1, s1⟩ := rdT_suf _ _ ht1
            obtain ⟨e0, e1, e2⟩ := drop_back (dr3.trans s1) rfl
            obtain ⟨l3, rfl⟩ := head_cons ((cut_is sgs.2.2 e0 e2).mp (of_decide_eq_true q))
            have lc : ((32 :: l3).length : Int) = l3.length + 1 := by simp
            have dr4 := drop_more (p := [32]) e2 e0 rfl
            have dr4 : x.cps.toList.drop ((x.length : Int) - ((32 :: l3).length : Int) + 1).toNat = l3 := dr4
            have cn2 : l3.count 40 < n := by
              have := cnt_suf (p := p1 ++ [32]) (l := l1') (l' := l3) (by rw [s1]; simp)
              omega
            try dsimp only [n_term_at, List.length_cons, List.length_nil, Nat.reduceAdd, Nat.reduceSub]
            try decreasing_trivial
            trivial
            · have ht2 := ht
              obtain ⟨p2, s2⟩ := rdT_suf _ _ ht2
              obtain ⟨f0, f1, f2⟩ := drop_back (dr4.trans s2) rfl
              obtain ⟨l5, rfl⟩ := head_cons ((cut_is sgs.2.1 f0 f2).mp (of_decide_eq_true q))
              have lc2 : ((41 :: l5).length : Int) = l5.length + 1 := by simp
              have kf := k1 _ _ (rd_r7 hs ht1 ht2)
              rw [show (x.length : Int) - l5.length = (x.length : Int) - ((41 :: l5).length : Int) + 1 by omega] at kf
              exact kf
            · refine k2 (rd_r6 hs ht1 ht fun e => ?_)
              obtain ⟨p2, s2⟩ := rdT_suf _ _ ht
              obtain ⟨f0, f1, f2⟩ := drop_back (dr4.trans s2) rfl
              exact absurd ((cut_is sgs.2.1 f0 f2).mpr e) (of_decide_eq_false q)
            · exact k2 (rd_r5 hs ht1 ht)
          · refine k2 (rd_r4 hs ht fun e => ?_)
            obtain ⟨p1, s1⟩ := rdT_suf _ _ ht
            obtain ⟨e0, e1, e2⟩ := drop_back (dr3.trans s1) rfl
            exact absurd ((cut_is sgs.2.2 e0 e2).mpr e) (of_decide_eq_false q)
          · exact k2 (rd_r3 hs ht)
          · exact absurd q2 (of_decide_eq_false q)
        · have q2 : ¬ cutS x (some (b + 2)) (some (b + 3)) = " " := fun e => h32 ((cut_is (x := x) sgs.2.2 (show 0 ≤ b + 2 by omega) dr2).mp (by rw [show b + 2 + 1 = b + 3 by omega]; exact e))
          try dsimp only [n_term_at, List.length_cons, List.length_nil, Nat.reduceAdd, Nat.reduceSub]
          try decreasing_trivial
          trivial
          all_goals first | exact k2 (rd_r2 h32) | exact absurd (of_decide_eq_true q) q2 | trace_state
      · have hs' : ¬ (sg c).cps.getD 0 0 ∈ (Str.ofString "+-*:<=").cps.toList := by
          rw [show (Str.ofString "+-*:<=").cps.toList = sixL by decide +kernel]
          exact hs
        try dsimp only [n_term_at, List.length_cons, List.length_nil, Nat.reduceAdd, Nat.reduceSub]
        try decreasing_trivial
        trivial
        all_goals first | exact k2 (rd_r1 hs) | exact absurd q Bool.false_ne_true | trace_state
  · have rl := rdT_leaf (n := n) hh
    rw [rl] at k1 k2
    have q0 : ¬ cutS x (some b) (some (b + 1)) = "(" := fun e => hh ((cut_is sgs.1 b0 hl).mp e)
    have rqb : cutS x (some b) (some (b + ((wordL l).length : Int))) = mkS (wordL l) := cut_from b0 rfl (hl.trans (word_drop l))
    have l2 := congrArg List.length hl
    rw [List.length_drop, ← VL.len_list] at l2
    have wl : (wordL l).length ≤ l.length := by
      have ll := congrArg List.length (word_drop l)
      rw [List.length_append] at ll
      omega
    try dsimp only [n_term_at, List.length_cons, List.length_nil, Nat.reduceAdd, Nat.reduceSub]
    try decreasing_trivial
    trivial
    refine sWhile_go (fun m g => ∃ j : Nat, g = [some (.p (.str x)), some (.p (.int b)), some (.p (.int i)), none, some (.p (.int (b + (j : Int)))), none, none] ∧ j ≤ (wordL l).length ∧ m = (wordL l).length - j) (wordL l).length ⟨0, by rw [show b + ((0 : Nat) : Int) = b by omega], Nat.zero_le _, rfl⟩ ?_
    rintro m g K ⟨j, rfl, hj, rfl⟩ hk
    by_cases hj2 : j < (wordL l).length
    · obtain ⟨lt, ch, rea, hn⟩ := word_at b0 hl hj2
      try dsimp only [n_term_at, List.length_cons, List.length_nil, Nat.reduceAdd, Nat.reduceSub]
      try decreasing_trivial
      trivial
      refine hk _ _ (by omega) ⟨j + 1, ?_, by omega, rfl⟩
      first | rfl | rw [show b + ((j + 1 : Nat) : Int) = b + (j : Int) + 1 by omega]
    · have ej : j = (wordL l).length := by omega
      subst ej
      by_cases lt : b + ((wordL l).length : Int) < x.length
      · obtain ⟨ch, rea, hn⟩ := word_no b0 hl lt
        try dsimp only [n_term_at, List.length_cons, List.length_nil, Nat.reduceAdd, Nat.reduceSub]
        try decreasing_trivial
        trivial
        · have kf := k1 t (l.drop (wordL l).length) (by rw [ht]; rfl)
          rw [word_end b0 b1 hl] at kf
          exact kf
        · exact k2 (by rw [ht]; rfl)
      ·
        try dsimp only [n_term_at, List.length_cons, List.length_nil, Nat.reduceAdd, Nat.reduceSub]
        try decreasing_trivial
        trivial
        · have kf := k1 t (l.drop (wordL l).length) (by rw [ht]; rfl)
          rw [word_end b0 b1 hl] at kf
          exact kf
        · exact k2 (by rw [ht]; rfl)
end
end KR

namespace KR
open PySem PySem.Spec PyProof.Rows L2 VL
set_option hygiene false
local macro_rules | `(tactic| decreasing_trivial) => `(tactic| dsimp only [x_aNil, x_aCons, x_rOp, x_rOu, x_rVar, x_rC, x_rT, x_rTand, x_rTor, x_rTnot, x_rAnd, x_rOr, x_rNot, x_rIf, x_rOt, x_rNewD, x_rSlLU, x_rSlL, x_rSlU, x_rChain, x_sNil, x_sSeq, x_sBreak, x_sCont, x_sExpr, x_sRet, x_sRetN, x_sIf, x_sSet, x_rMv, x_rFz, x_rMt, x_rMr, x_sSetL, x_rCall, x_bName, x_bTup, x_rSeq, x_rRange1, x_rRange2, x_sFor, x_rLc, x_rYes, x_rIsi1, x_rM0, x_rM1, x_aLate, x_sPar, x_sAug, x_tt, x_ff, x_bNames0, x_bNames1, x_lcT, x_wipe0, x_wipe1, x_AN_of_nx, x_AN_of_rt, x_AN_of_ex, x_seq_nx, x_seq_rt, x_seq_bk, x_seq_ct, x_seq_ex, x_loop_nx, x_loop_rt, x_loop_bk, x_loop_ct, x_loop_ex, x_grd_p, x_grd_ow, x_grd_sl, x_grd_vw, x_vwO_p, x_vwO_ls, x_vwO_lo, x_vwO_dc, x_vwO_dco, x_vwO_ins, x_vwO_fl, x_datL0, x_datL1, x_dat_p, x_dat_sl, x_dat_vw, x_dat_ow, x_sh_p, x_sh_ls, x_sh_dc, x_datu_p, x_datu_ls, x_datu_dc, x_datu_fl, x_datu_vw, x_datu_ow, x_takes0, x_takes_p, x_takes_ow, x_map_some, x_frz_p, x_frz_ls, x_frz_dc, x_take1_p, x_take1_ow, x_own1_p, x_own1_ow, x_slots_p, x_slots_sl, x_slots_ow, x_vwp_sl, x_vwp_vw, x_toO_p, x_toO_sl, x_toO_ow, x_wb_sl, x_wb_p, x_wb_ow, x_wb0, x_wb00, x_seqM_list, x_seqM_tuple, x_seqM_str, x_isI, x_all, x_any, x_join_l, x_join_t, x_add_i, x_add_s, x_add_l, x_add_t, x_sub, x_mod, x_div, x_pow, x_mul_i, x_mul_s, x_neg, x_cmp, x_eq, x_eq_s, x_eq_i, x_eq_b, x_eq_n, x_eq_ns, x_eq_sn, x_eq_is, x_eq_si, x_eq_ll, x_eq_t2, x_isN_n, x_isN_i, x_isN_s, x_isN_l, x_isN_t, x_in_s, x_in_sl, x_in_il, x_in_tl, x_in_st, x_in_it, x_len_s, x_len_l, x_len_t, x_ix_l, x_ix_t, x_ix_s, x_tup, x_lst, x_sl_s, x_sl_l, x_sl_t, x_append, x_extend, x_max_i, x_max_l, x_min, x_int_i, x_int_b, x_listOf_l, x_listOf_t, x_tupOf_l, x_tupOf_t, x_repr_i, x_repr_l, x_repr_t, x_map0, x_map1, x_app0, x_app1, x_set0, x_setS, x_get0, x_getS, x_Tr_num, x_Tr_cel, x_Tr_inn, x_Tr_op, x_forW0, x_forW1, x_lcW0, x_lcW1, x_drop1, x_drop0, x_dropn, x_take1s, x_take0, x_taken, x_ty_l, x_ty_t, x_ty_i, x_ty_b, x_ty_s, x_ty_d, x_rDisp, x_rDispN, x_sSetD, x_rGet2, x_rEnum, x_ixX_ds, x_ixX_di, x_ixX_l, x_ixX_t, x_ixX_s, x_inX_ds, x_inX_di, x_inX_s, x_inX_sl, x_inX_il, x_inX_tl, x_inX_st, x_inX_it, x_lenX_d, x_lenX_s, x_lenX_l, x_lenX_t, x_mulY_t, x_mulY_i, x_mulY_s, x_kD_i, x_kD_s, x_kP_i, x_kP_s, x_zip1, x_zip0, x_mClear, x_mReverse, x_enum0, x_scene_map, x_scene_len, x_Row_set, x_Row_tell, x_Row_ifr, x_Row_whl, x_Row_tms, x_bod_set, x_bod_tell, x_bod_ifr, x_bod_whl, x_bod_tms, x_enum1, x_enum2, x_wayO_some, x_wayO_none, x_i01, x_i11, x_sRaise1, x_sRaise0, x_sTry, x_rIs, x_rFld, x_rIsTu, x_tr_nx, x_tr_rt, x_tr_bk, x_tr_ct, x_tr_ex, x_su_nx, x_su_rt, x_su_bk, x_su_ct, x_isB, x_rp, x_held0, x_heldS, x_sUnp, x_sUnl, x_rRm, x_cnt, x_idx, x_sidx, x_tyOk_l, x_tyOk_s, x_tyOk_d, x_nc0, x_nc1, x_nc2, x_nc3, x_nc4, x_nc5, x_nc6, x_nc7, x_nc8, x_nc9, x_rRev, x_rZip, x_rsl0, x_rsl1, x_intX_s, x_intX_i, x_intX_b, x_strX_s, x_strX_i, List.map_nil, List.map_cons, List.cons_append, List.nil_append, List.append_nil, List.replicate_succ, List.replicate_zero, List.length_cons, List.length_nil, List.contains, List.elem, Nat.reduceBEq, Nat.reduceAdd, Nat.reduceSub, List.all_nil, List.all_cons, Int.reduceNeg, Int.reduceSub, Int.reduceAdd, id])
local macro_rules | `(tactic| trivial) => `(tactic| repeat (any_goals (first | ((with_reducible refine And.intro ?sd ?_); (case sd => (first | exact rfl | omega | assumption | (simp only [List.length_map, List.length_append, List.length_cons, List.length_nil, List.length_set, List.length_take, List.length_drop, List.length_range, List.length_reverse]; omega) | exact small (by omega) | exact cut_le (by omega) | exact sl_add (by first | omega | decide +kernel | exact cut_le (by omega) | exact up_le (by omega) | exact up_le (cut_le (by omega)) | exact app_le (by exact up_le4 (cut_le (by omega))) (by exact cut_le (by omega)) | exact app_le (by decide) (by omega) | exact app_le (by first | omega | exact cut_le (by omega)) (by first | omega | exact cut_le (by omega))) (by first | omega | decide +kernel | exact cut_le (by omega) | exact up_le (by omega) | exact up_le (cut_le (by omega)) | exact app_le (by exact up_le4 (cut_le (by omega))) (by exact cut_le (by omega)) | exact app_le (by decide) (by omega) | exact app_le (by first | omega | exact cut_le (by omega)) (by first | omega | exact cut_le (by omega))) | exact ⟨by omega, by omega⟩ | exact Or.inr ⟨by decide, by decide⟩ | exact Or.inl ⟨by omega, by omega⟩ | exact Or.inl ⟨by decide, by decide⟩ | exact ⟨by decide, by decide, by decide⟩ | exact small (by simp only [List.length_map, List.length_append, List.length_cons, List.length_nil, List.length_set, List.length_take, List.length_drop, List.length_range, List.length_reverse]; omega) | exact log_ok (by omega) (by omega) | (split <;> omega) | exact small (by rw [rowsD_len]; have := RowsIn.rlen (by assumption); omega) | exact small (by simp only [List.length_append, List.length_cons, List.length_nil, rowsD_len]; omega) | exact Nat.lt_of_lt_of_le (by simp only [List.length_append, List.length_cons, List.length_nil, rowsD_len, List.length_map]; omega : _ < 100000) (by decide) | rfl | decide))) | ((with_reducible refine' Exists.intro _ (And.intro put_scene ?_)); try decreasing_trivial) | ((with_reducible show sp_law_take _ _ _); (first | refine ⟨_, _, _, rfl, by decide, by decide, fun r a b r0 r1 => ?_⟩ | refine ⟨_, _, _, rfl, by omega, by omega, fun r a b r0 r1 => ?_⟩ | (refine ⟨_, _, _, rfl, by simp only [List.length_map]; omega, by simp only [List.length_map]; omega, fun r a b r0 r1 => ?_⟩; simp only [List.length_map] at r1)); try decreasing_trivial) | ((with_reducible show sp_law_feed _ _ _); (refine ⟨_, _, rfl, by omega, by omega, by omega, fun fa fb => ?_⟩); try decreasing_trivial) | ((with_reducible show sp_parts _ _ _ _); (refine ⟨_, rfl, by assumption, by assumption, ?_⟩); try decreasing_trivial) | ((with_reducible show sp_deep _ _ _ _); (refine ⟨_, rfl, by assumption, ?_⟩); try decreasing_trivial) | ((with_reducible show sp_cells _ _ _ _); (refine ⟨_, rfl, by assumption, by assumption, ?_⟩); try decreasing_trivial) | ((with_reducible show sp_law_number _ _ _); (refine ⟨_, _, rfl, fun nv a b n0 n1 => ?_⟩); try decreasing_trivial) | ((with_reducible show sp_law_names _ _ _); (refine ⟨_, _, _, rfl, by omega, by omega, fun ws a b wl wn => ?_⟩); try decreasing_trivial) | ((with_reducible show sp_law_scene _ _ _); (refine ⟨_, _, rfl, fun cs ms a b sc => ?_⟩); try decreasing_trivial) | ((with_reducible show sp_law_mark _ _ _); (refine ⟨_, _, _, rfl, by omega, by omega, by omega, fun m me => ?_⟩); try decreasing_trivial) | ((with_reducible show sp_law_term _ _ _ _); (refine ⟨_, _, _, _, _, _, _, rfl, by omega, by omega, by omega, by omega, by omega, by omega, fun t a b t1 t2 t3 => ?_⟩); try decreasing_trivial) | ((with_reducible show sp_law_row _ _ _ _); (refine ⟨_, _, _, _, _, _, _, rfl, by assumption, by omega, by omega, by omega, by omega, by omega, fun rw a b u l l0 ul ri uu => ?_⟩); try decreasing_trivial) | ((with_reducible show sp_law_body _ _ _ _); (refine ⟨_, _, _, _, _, _, _, rfl, by assumption, by omega, by omega, by omega, by omega, by omega, fun bd a b u l l0 ul ri uu une => ?_⟩); try decreasing_trivial) | ((with_reducible show sp_law_program _ _ _); (refine ⟨_, _, _, _, _, rfl, by assumption, by omega, by omega, fun pr a b u u0 u1 ri pne => ?_⟩); try decreasing_trivial) | ((with_reducible show sp_bodies_in _ _ _); (first | refine ⟨.set _ _ _, rfl, ?_⟩ | refine ⟨.tell _ _, rfl, ?_⟩ | refine ⟨.ifr _ _ _ _, rfl, ?_⟩ | (refine ⟨.whl _ _ _, by exact rfl, ?_⟩) | refine ⟨.tms _ _ _, rfl, ?_⟩ | refine ⟨_, rfl, ?_⟩); try decreasing_trivial) | ((with_reducible show sp_law_bodies _ _ _); (first | refine ⟨.set _ _ _, rfl, ?_⟩ | refine ⟨.tell _ _, rfl, ?_⟩ | refine ⟨.ifr _ _ _ _, rfl, ?_⟩ | (refine ⟨.whl _ _ _, by exact rfl, ?_⟩) | refine ⟨.tms _ _ _, rfl, ?_⟩ | refine ⟨_, rfl, ?_⟩); try decreasing_trivial) | ((with_reducible show sp_rows _ _ _ _); (refine ⟨_, rfl, by omega, by omega, ?_⟩); try decreasing_trivial) | ((with_reducible show sp_marks _ _ _ _); (refine ⟨_, rfl, by omega, by omega, ?_⟩); try decreasing_trivial) | ((with_reducible show sp_way_to _ _ _ _); (refine ⟨_, _, rfl, by omega, by omega, ?_⟩; (try simp only [ha]); (try simp only [hb])); try decreasing_trivial) | ((with_reducible show sp_spot _ _ _ _); (refine ⟨_, _, _, rfl, by assumption, by omega, by omega, ?_⟩; (try rw [esp])); try decreasing_trivial) | ((with_reducible show sp_loops _ _ _ _); (refine ⟨_, _, _, rfl, by assumption, by omega, by omega, ?_⟩); try decreasing_trivial) | ((with_reducible show sp_need_text er _ _ _); (refine ⟨_, _, rfl, fun q => ?_, fun q => ?_⟩); try decreasing_trivial) | ((with_reducible show sp_is_name _ _ _); (refine ⟨_, rfl, by omega, ?_⟩); try decreasing_trivial) | ((with_reducible show sp_is_number _ _ _); (refine ⟨_, rfl, by omega, ?_⟩); try decreasing_trivial) | ((with_reducible show sp_leaf_of er _ _ _); (refine ⟨_, _, _, rfl, by first | omega | (simp only [mkS_len]; omega), by first | exact mkS_l _ | rfl, fun t ht => ?_, fun ht => ?_⟩); try decreasing_trivial) | ((with_reducible show sp_term_at er _ _ _ _); (refine ⟨_, _, _, _, rfl, by omega, by omega, by omega, by first | assumption | rfl, by omega, fun t l ht => ?_, fun ht => ?_⟩); try decreasing_trivial) | ((with_reducible show sp_whole_term er _ _ _); (refine ⟨_, _, rfl, by omega, by omega, fun t ht => ?_, fun ht => ?_⟩); try decreasing_trivial) | ((with_reducible show sp_read_term er _ _ _); (refine ⟨_, rfl, by omega, by omega, fun t ht => ?_, fun ht => ?_⟩); try decreasing_trivial) | ((with_reducible show sp_term_text _ _ _ _); (refine ⟨_, rfl, by first | assumption | omega, by assumption, by omega, ?_⟩); try decreasing_trivial) | ((with_reducible show sp_law_term_text _ _ _ _); (refine ⟨_, rfl, by first | assumption | omega, by assumption, by omega, ?_⟩); try decreasing_trivial) | ((with_reducible show sp_law_kept _ _ _); (refine ⟨rfl, ?_⟩); try decreasing_trivial) | ((with_reducible show sp_law_word _ _ _); (refine ⟨_, _, rfl, fun wd a b wx => ?_⟩); try decreasing_trivial) | ((with_reducible show sp_law_any_term _ _ _ _); (first | refine ⟨_, _, _, _, _, rfl, by assumption, by assumption, by omega, by omega, by omega, by omega, fun t a b t1 t2 t3 => ?_⟩ | refine ⟨_, _, [_, _], _, _, rfl, by decide, by decide, by omega, by omega, by omega, by omega, fun t a b t1 t2 t3 => ?_⟩ | refine ⟨_, _, _, _, _, rfl, by assumption, by assumption, by omega, by omega, by omega, by omega, fun t a b t1 t2 t3 => ?_⟩ | refine ⟨_, _, _, _, _, rfl, by omega, by omega, by omega, by omega, by omega, by omega, fun t a b t1 t2 t3 => ?_⟩); try decreasing_trivial) | ((with_reducible show sp_law_alike _ _ _ _); (refine ⟨_, _, rfl, by assumption, by omega, ?_⟩); try decreasing_trivial) | ((with_reducible refine px_0 ?sd ?_); (case sd => (first | omega | (simp only [List.length_map, List.length_append, List.length_cons, List.length_nil, List.length_set, List.length_take, List.length_drop, List.length_range, List.length_reverse]; omega))); try decreasing_trivial) | ((with_reducible refine px_1 ?sd ?_); (case sd => (first | omega | (simp only [List.length_map, List.length_append, List.length_cons, List.length_nil, List.length_set, List.length_take, List.length_drop, List.length_range, List.length_reverse]; omega))); try decreasing_trivial) | ((with_reducible refine px_2 ?sd ?_); (case sd => (first | omega | (simp only [List.length_map, List.length_append, List.length_cons, List.length_nil, List.length_set, List.length_take, List.length_drop, List.length_range, List.length_reverse]; omega))); try decreasing_trivial) | ((with_reducible refine px_3 ?sd ?_); (case sd => (first | omega | (simp only [List.length_map, List.length_append, List.length_cons, List.length_nil, List.length_set, List.length_take, List.length_drop, List.length_range, List.length_reverse]; omega))); try decreasing_trivial) | ((with_reducible refine px_m1 ?sd ?_); (case sd => (first | omega | (simp only [List.length_map, List.length_append, List.length_cons, List.length_nil, List.length_set, List.length_take, List.length_drop, List.length_range, List.length_reverse]; omega))); try decreasing_trivial) | ((with_reducible refine px_i ?s1 ?s2 ?_); (case s1 => (first | omega | (simp only [List.length_map, List.length_append, List.length_cons, List.length_nil, List.length_set, List.length_take, List.length_drop, List.length_range, List.length_reverse]; omega))); (case s2 => (first | omega | (simp only [List.length_map, List.length_append, List.length_cons, List.length_nil, List.length_set, List.length_take, List.length_drop, List.length_range, List.length_reverse]; omega))); try decreasing_trivial) | ((with_reducible refine' ix_0 ?sd ?_); (case sd => exact rfl); try decreasing_trivial) | ((with_reducible refine' ix_1 ?sd ?_); (case sd => exact rfl); try decreasing_trivial) | ((with_reducible refine' ix_2 ?sd ?_); (case sd => exact rfl); try decreasing_trivial) | ((with_reducible refine' ix_3 ?sd ?_); (case sd => exact rfl); try decreasing_trivial) | ((with_reducible refine' ix_4 ?sd ?_); (case sd => exact rfl); try decreasing_trivial) | ((with_reducible refine' ix_5 ?sd ?_); (case sd => exact rfl); try decreasing_trivial) | ((with_reducible refine' ix_m1 ?sd ?_); (case sd => exact rfl); try decreasing_trivial) | ((with_reducible refine' ix_m2 ?sd ?_); (case sd => exact rfl); try decreasing_trivial) | (((rw [rqa])); try decreasing_trivial) | (((rw [rqb])); try decreasing_trivial) | (((rw [ewn])); try decreasing_trivial) | (((with_reducible refine' Exists.intro _ (And.intro rea ?_))); try decreasing_trivial) | (((with_reducible refine ix_am1 ?_)); try decreasing_trivial) | (((with_reducible refine ix_am2 ?_)); try decreasing_trivial) | ((((with_reducible refine ix_map ?s1 ?s2 (fun x mx me => ?_)); (case s1 => (first | omega | (simp only [List.length_map]; omega) | (simp only [List.length_map]; exact Int.emod_nonneg _ (by omega)) | (simp only [List.length_map]; exact Int.emod_lt_of_pos _ (by omega)))); (case s2 => (first | omega | (simp only [List.length_map]; omega) | (simp only [List.length_map]; exact Int.emod_nonneg _ (by omega)) | (simp only [List.length_map]; exact Int.emod_lt_of_pos _ (by omega)))))); try decreasing_trivial) | ((((with_reducible refine ix_lett ?s1 ?s2 ?_); (case s1 => omega); (case s2 => omega))); try decreasing_trivial) | ((((with_reducible refine ix_sgnM (m := 6) ?s0 ?s1 ?s2 (fun v mv => ?_)); (case s0 => decide +kernel); (case s1 => omega); (case s2 => omega))); try decreasing_trivial) | ((((with_reducible refine ix_sgnM (m := 7) ?s0 ?s1 ?s2 (fun v mv => ?_)); (case s0 => decide +kernel); (case s1 => omega); (case s2 => omega))); try decreasing_trivial) | ((((with_reducible refine ix_i2 ?s1 ?s2 (fun v vi => ?_)); (case s1 => omega); (case s2 => omega))); try decreasing_trivial) | ((((with_reducible refine ix_i3 ?s1 ?s2 (fun v vi => ?_)); (case s1 => omega); (case s2 => omega))); try decreasing_trivial) | ((((with_reducible refine ix_i6 ?s1 ?s2 (fun v vi => ?_)); (case s1 => omega); (case s2 => omega))); try decreasing_trivial) | ((((with_reducible refine ix_cons ?s1 (fun ei => ?_) (fun ei => ?_)); (case s1 => omega))); try decreasing_trivial) | ((((with_reducible refine ix_nil ?s1); (case s1 => omega))); try decreasing_trivial) | ((((with_reducible refine ix_let2 ?s1 ?s2 ?_); (case s1 => omega); (case s2 => omega))); try decreasing_trivial) | ((with_reducible refine' Exists.intro _ (And.intro ?sd ?_)); (case sd => exact rfl); try decreasing_trivial) | ((with_reducible refine iteB (fun c => ?_) (fun c => ?_)) <;> (try simp only [decide_eq_true_eq, decide_eq_false_iff_not, Bool.not_eq_true', Bool.not_eq_false', id, List.length_map, eqv_int, eqv_str, List.any_cons, List.any_nil, Bool.or_eq_true, Bool.or_false, Bool.or_eq_false_iff] at c) <;> (try exact absurd c (by assumption)) <;> (try exact absurd (by assumption) c) <;> (try exact absurd c (by decide +kernel)) <;> (try exact absurd (c.symm.trans (show _ = true by assumption)) (by decide)) <;> (try exact absurd (c.symm.trans (show _ = false by assumption)) (by decide)) <;> (try decreasing_trivial)) | ((with_reducible refine' Exists.intro _ (And.intro kit_bb ?_)); try decreasing_trivial) | ((with_reducible refine' Exists.intro _ (And.intro kit_ll ?_)); try decreasing_trivial) | ((with_reducible refine' Exists.intro _ (And.intro kit_tt ?_)); try decreasing_trivial) | ((with_reducible refine' Exists.intro _ (And.intro kit_dd ?_)); try decreasing_trivial) | ((with_reducible refine' Exists.intro _ (And.intro kit_ii ?_)); try decreasing_trivial) | ((with_reducible refine' Exists.intro _ (And.intro kit_ss ?_)); try decreasing_trivial) | ((with_reducible refine' Exists.intro _ (And.intro kit_ib ?_)); try decreasing_trivial) | ((with_reducible refine' Exists.intro _ (And.intro kit_bi ?_)); try decreasing_trivial) | ((with_reducible refine dv_hit ?sd ?_); (case sd => first | exact rfl | decide +kernel); try decreasing_trivial) | ((with_reducible refine dv_miss ?sd ?_); (case sd => decide +kernel); try decreasing_trivial) | ((first | rw [inx_set] | rw [inx_tell] | rw [inx_ifr] | rw [inx_whl] | rw [inx_tms]); try decreasing_trivial) | ((first | rw [cut_lo1] | rw [cut_hi1] | rw [cut_lo2] | rw [cut_hi2] | rw [cut_lo3] | rw [cut_hi3] | rw [cut_lo4] | rw [cut_hi4] | rw [cut_lo5] | rw [cut_hi5] | rw [cut_lo6] | rw [cut_hi6]); try decreasing_trivial))))
section
variable {P : Program} {w : World} {K : PySem.W.Frag} {mg : Str → Option Value} {base : Heap} {fa : Addr} {fd : FuncData}
abbrev s_whole_term : Stmt := top 18
abbrev n_whole_term : List Str := ["text", "at", "found", "end"]
theorem sc_whole_term : FnScope n_whole_term ["text", "at"] (defScope s_whole_term) := ⟨rfl, rfl, rfl, by decide +kernel, rfl, by decide +kernel, by decide +kernel⟩
theorem ok_whole_term {er : PySem.Str → Addr} (F : Fun K "whole_term" "whole_term" s_whole_term fa fd) (c_need_text : DefOk P w K mg base "need_text" 1 ["good", "at"] [] (sp_need_text er)) (c_term_at : DefOk P w K mg base "term_at" 42 ["text", "begin", "at"] [] (sp_term_at er 40)) (z_len : mg "len" = none) :
    FnV P w K mg base 43 fa fd ["text", "at"] [] (sp_whole_term er) := by
  refine FnV.of F sc_whole_term (fun os k kx h => by obtain ⟨x, i, rfl, _⟩ := h; rfl) fun cdv A outer s H E hg hr => ⟨_, _, (js_cons (js_unp (je_call [] c_term_at hg hr (by first | decide | exact Nat.le_refl _ | omega) (takes_of rfl rfl rfl rfl) rfl (ja_cons (je_var 0) (ja_cons je_int (ja_cons (je_var 1) ja_nil)))) (jg_tup rfl (jgs_cons (i := 2) rfl sc_whole_term.nd rfl (Or.inl rfl) (jgs_cons (i := 3) rfl sc_whole_term.nd rfl (Or.inl rfl) jgs_nil)) rfl))
      (js_cons (js_expr (je_call [] c_need_text hg hr (by first | decide | exact Nat.le_refl _ | omega) (takes_of rfl rfl rfl rfl) rfl (ja_cons (je_cmp (op_eqX hr.units) ok_eq (nomark _) (je_var 3) (je_B call_lenX ok_lenX rfl z_len PySem.boot_len (ja_cons (je_var 0) ja_nil))) (ja_cons (je_var 1) ja_nil))))
      (js_one (js_ret (je_var 2))))), fun os kk kx h => ?_⟩
  obtain ⟨x, i, rfl, h0, hc, k1, k2⟩ := h
  have dr0 : x.cps.toList.drop (0 : Int).toNat = x.cps.toList := rfl
  try dsimp only [n_whole_term, List.length_cons, List.length_nil, Nat.reduceAdd, Nat.reduceSub]
  try decreasing_trivial
  trivial
  · exact k1 _ (whole_1 ht q)
  · exact k2 (whole_2 ht q)
  · exact k2 (whole_3 ht)
end
end KR

namespace KR
open PySem PySem.Spec PyProof.Rows L2 VL
set_option hygiene false
local macro_rules | `(tactic| decreasing_trivial) => `(tactic| dsimp only [x_aNil, x_aCons, x_rOp, x_rOu, x_rVar, x_rC, x_rT, x_rTand, x_rTor, x_rTnot, x_rAnd, x_rOr, x_rNot, x_rIf, x_rOt, x_rNewD, x_rSlLU, x_rSlL, x_rSlU, x_rChain, x_sNil, x_sSeq, x_sBreak, x_sCont, x_sExpr, x_sRet, x_sRetN, x_sIf, x_sSet, x_rMv, x_rFz, x_rMt, x_rMr, x_sSetL, x_rCall, x_bName, x_bTup, x_rSeq, x_rRange1, x_rRange2, x_sFor, x_rLc, x_rYes, x_rIsi1, x_rM0, x_rM1, x_aLate, x_sPar, x_sAug, x_tt, x_ff, x_bNames0, x_bNames1, x_lcT, x_wipe0, x_wipe1, x_AN_of_nx, x_AN_of_rt, x_AN_of_ex, x_seq_nx, x_seq_rt, x_seq_bk, x_seq_ct, x_seq_ex, x_loop_nx, x_loop_rt, x_loop_bk, x_loop_ct, x_loop_ex, x_grd_p, x_grd_ow, x_grd_sl, x_grd_vw, x_vwO_p, x_vwO_ls, x_vwO_lo, x_vwO_dc, x_vwO_dco, x_vwO_ins, x_vwO_fl, x_datL0, x_datL1, x_dat_p, x_dat_sl, x_dat_vw, x_dat_ow, x_sh_p, x_sh_ls, x_sh_dc, x_datu_p, x_datu_ls, x_datu_dc, x_datu_fl, x_datu_vw, x_datu_ow, x_takes0, x_takes_p, x_takes_ow, x_map_some, x_frz_p, x_frz_ls, x_frz_dc, x_take1_p, x_take1_ow, x_own1_p, x_own1_ow, x_slots_p, x_slots_sl, x_slots_ow, x_vwp_sl, x_vwp_vw, x_toO_p, x_toO_sl, x_toO_ow, x_wb_sl, x_wb_p, x_wb_ow, x_wb0, x_wb00, x_seqM_list, x_seqM_tuple, x_seqM_str, x_isI, x_all, x_any, x_join_l, x_join_t, x_add_i, x_add_s, x_add_l, x_add_t, x_sub, x_mod, x_div, x_pow, x_mul_i, x_mul_s, x_neg, x_cmp, x_eq, x_eq_s, x_eq_i, x_eq_b, x_eq_n, x_eq_ns, x_eq_sn, x_eq_is, x_eq_si, x_eq_ll, x_eq_t2, x_isN_n, x_isN_i, x_isN_s, x_isN_l, x_isN_t, x_in_s, x_in_sl, x_in_il, x_in_tl, x_in_st, x_in_it, x_len_s, x_len_l, x_len_t, x_ix_l, x_ix_t, x_ix_s, x_tup, x_lst, x_sl_s, x_sl_l, x_sl_t, x_append, x_extend, x_max_i, x_max_l, x_min, x_int_i, x_int_b, x_listOf_l, x_listOf_t, x_tupOf_l, x_tupOf_t, x_repr_i, x_repr_l, x_repr_t, x_map0, x_map1, x_app0, x_app1, x_set0, x_setS, x_get0, x_getS, x_Tr_num, x_Tr_cel, x_Tr_inn, x_Tr_op, x_forW0, x_forW1, x_lcW0, x_lcW1, x_drop1, x_drop0, x_dropn, x_take1s, x_take0, x_taken, x_ty_l, x_ty_t, x_ty_i, x_ty_b, x_ty_s, x_ty_d, x_rDisp, x_rDispN, x_sSetD, x_rGet2, x_rEnum, x_ixX_ds, x_ixX_di, x_ixX_l, x_ixX_t, x_ixX_s, x_inX_ds, x_inX_di, x_inX_s, x_inX_sl, x_inX_il, x_inX_tl, x_inX_st, x_inX_it, x_lenX_d, x_lenX_s, x_lenX_l, x_lenX_t, x_mulY_t, x_mulY_i, x_mulY_s, x_kD_i, x_kD_s, x_kP_i, x_kP_s, x_zip1, x_zip0, x_mClear, x_mReverse, x_enum0, x_scene_map, x_scene_len, x_Row_set, x_Row_tell, x_Row_ifr, x_Row_whl, x_Row_tms, x_bod_set, x_bod_tell, x_bod_ifr, x_bod_whl, x_bod_tms, x_enum1, x_enum2, x_wayO_some, x_wayO_none, x_i01, x_i11, x_sRaise1, x_sRaise0, x_sTry, x_rIs, x_rFld, x_rIsTu, x_tr_nx, x_tr_rt, x_tr_bk, x_tr_ct, x_tr_ex, x_su_nx, x_su_rt, x_su_bk, x_su_ct, x_isB, x_rp, x_held0, x_heldS, x_sUnp, x_sUnl, x_rRm, x_cnt, x_idx, x_sidx, x_tyOk_l, x_tyOk_s, x_tyOk_d, x_nc0, x_nc1, x_nc2, x_nc3, x_nc4, x_nc5, x_nc6, x_nc7, x_nc8, x_nc9, x_rRev, x_rZip, x_rsl0, x_rsl1, x_intX_s, x_intX_i, x_intX_b, x_strX_s, x_strX_i, List.map_nil, List.map_cons, List.cons_append, List.nil_append, List.append_nil, List.replicate_succ, List.replicate_zero, List.length_cons, List.length_nil, List.contains, List.elem, Nat.reduceBEq, Nat.reduceAdd, Nat.reduceSub, List.all_nil, List.all_cons, Int.reduceNeg, Int.reduceSub, Int.reduceAdd, id])
local macro_rules | `(tactic| trivial) => `(tactic| repeat (any_goals (first | ((with_reducible refine And.intro ?sd ?_); (case sd => (first | exact rfl | omega | assumption | (simp only [List.length_map, List.length_append, List.length_cons, List.length_nil, List.length_set, List.length_take, List.length_drop, List.length_range, List.length_reverse]; omega) | exact small (by omega) | exact cut_le (by omega) | exact sl_add (by first | omega | decide +kernel | exact cut_le (by omega) | exact up_le (by omega) | exact up_le (cut_le (by omega)) | exact app_le (by exact up_le4 (cut_le (by omega))) (by exact cut_le (by omega)) | exact app_le (by decide) (by omega) | exact app_le (by first | omega | exact cut_le (by omega)) (by first | omega | exact cut_le (by omega))) (by first | omega | decide +kernel | exact cut_le (by omega) | exact up_le (by omega) | exact up_le (cut_le (by omega)) | exact app_le (by exact up_le4 (cut_le (by omega))) (by exact cut_le (by omega)) | exact app_le (by decide) (by omega) | exact app_le (by first | omega | exact cut_le (by omega)) (by first | omega | exact cut_le (by omega))) | exact ⟨by omega, by omega⟩ | exact Or.inr ⟨by decide, by decide⟩ | exact Or.inl ⟨by omega, by omega⟩ | exact Or.inl ⟨by decide, by decide⟩ | exact ⟨by decide, by decide, by decide⟩ | exact small (by simp only [List.length_map, List.length_append, List.length_cons, List.length_nil, List.length_set, List.length_take, List.length_drop, List.length_range, List.length_reverse]; omega) | exact log_ok (by omega) (by omega) | (split <;> omega) | exact small (by rw [rowsD_len]; have := RowsIn.rlen (by assumption); omega) | exact small (by simp only [List.length_append, List.length_cons, List.length_nil, rowsD_len]; omega) | exact Nat.lt_of_lt_of_le (by simp only [List.length_append, List.length_cons, List.length_nil, rowsD_len, List.length_map]; omega : _ < 100000) (by decide) | rfl | decide))) | ((with_reducible refine' Exists.intro _ (And.intro put_scene ?_)); try decreasing_trivial) | ((with_reducible show sp_law_take _ _ _); (first | refine ⟨_, _, _, rfl, by decide, by decide, fun r a b r0 r1 => ?_⟩ | refine ⟨_, _, _, rfl, by omega, by omega, fun r a b r0 r1 => ?_⟩ | (refine ⟨_, _, _, rfl, by simp only [List.length_map]; omega, by simp only [List.length_map]; omega, fun r a b r0 r1 => ?_⟩; simp only [List.length_map] at r1)); try decreasing_trivial) | ((with_reducible show sp_law_feed _ _ _); (refine ⟨_, _, rfl, by omega, by omega, by omega, fun fa fb => ?_⟩); try decreasing_trivial) | ((with_reducible show sp_parts _ _ _ _); (refine ⟨_, rfl, by assumption, by assumption, ?_⟩); try decreasing_trivial) | ((with_reducible show sp_deep _ _ _ _); (refine ⟨_, rfl, by assumption, ?_⟩); try decreasing_trivial) | ((with_reducible show sp_cells _ _ _ _); (refine ⟨_, rfl, by assumption, by assumption, ?_⟩); try decreasing_trivial) | ((with_reducible show sp_law_number _ _ _); (refine ⟨_, _, rfl, fun nv a b n0 n1 => ?_⟩); try decreasing_trivial) | ((with_reducible show sp_law_names _ _ _); (refine ⟨_, _, _, rfl, by omega, by omega, fun ws a b wl wn => ?_⟩); try decreasing_trivial) | ((with_reducible show sp_law_scene _ _ _); (refine ⟨_, _, rfl, fun cs ms a b sc => ?_⟩); try decreasing_trivial) | ((with_reducible show sp_law_mark _ _ _); (refine ⟨_, _, _, rfl, by omega, by omega, by omega, fun m me => ?_⟩); try decreasing_trivial) | ((with_reducible show sp_law_term _ _ _ _); (refine ⟨_, _, _, _, _, _, _, rfl, by omega, by omega, by omega, by omega, by omega, by omega, fun t a b t1 t2 t3 => ?_⟩); try decreasing_trivial) | ((with_reducible show sp_law_row _ _ _ _); (refine ⟨_, _, _, _, _, _, _, rfl, by assumption, by omega, by omega, by omega, by omega, by omega, fun rw a b u l l0 ul ri uu => ?_⟩); try decreasing_trivial) | ((with_reducible show sp_law_body _ _ _ _); (refine ⟨_, _, _, _, _, _, _, rfl, by assumption, by omega, by omega, by omega, by omega, by omega, fun bd a b u l l0 ul ri uu une => ?_⟩); try decreasing_trivial) | ((with_reducible show sp_law_program _ _ _); (refine ⟨_, _, _, _, _, rfl, by assumption, by omega, by omega, fun pr a b u u0 u1 ri pne => ?_⟩); try decreasing_trivial) | ((with_reducible show sp_bodies_in _ _ _); (first | refine ⟨.set _ _ _, rfl, ?_⟩ | refine ⟨.tell _ _, rfl, ?_⟩ | refine ⟨.ifr _ _ _ _, rfl, ?_⟩ | (refine ⟨.whl _ _ _, by exact rfl, ?_⟩) | refine ⟨.tms _ _ _, rfl, ?_⟩ | refine ⟨_, rfl, ?_⟩); try decreasing_trivial) | ((with_reducible show sp_law_bodies _ _ _); (first | refine ⟨.set _ _ _, rfl, ?_⟩ | refine ⟨.tell _ _, rfl, ?_⟩ | refine ⟨.ifr _ _ _ _, rfl, ?_⟩ | (refine ⟨.whl _ _ _, by exact rfl, ?_⟩) | refine ⟨.tms _ _ _, rfl, ?_⟩ | refine ⟨_, rfl, ?_⟩); try decreasing_trivial) | ((with_reducible show sp_rows _ _ _ _); (refine ⟨_, rfl, by omega, by omega, ?_⟩); try decreasing_trivial) | ((with_reducible show sp_marks _ _ _ _); (refine ⟨_, rfl, by omega, by omega, ?_⟩); try decreasing_trivial) | ((with_reducible show sp_way_to _ _ _ _); (refine ⟨_, _, rfl, by omega, by omega, ?_⟩; (try simp only [ha]); (try simp only [hb])); try decreasing_trivial) | ((with_reducible show sp_spot _ _ _ _); (refine ⟨_, _, _, rfl, by assumption, by omega, by omega, ?_⟩; (try rw [esp])); try decreasing_trivial) | ((with_reducible show sp_loops _ _ _ _); (refine ⟨_, _, _, rfl, by assumption, by omega, by omega, ?_⟩); try decreasing_trivial) | ((with_reducible show sp_need_text er _ _ _); (refine ⟨_, _, rfl, fun q => ?_, fun q => ?_⟩); try decreasing_trivial) | ((with_reducible show sp_is_name _ _ _); (refine ⟨_, rfl, by omega, ?_⟩); try decreasing_trivial) | ((with_reducible show sp_is_number _ _ _); (refine ⟨_, rfl, by omega, ?_⟩); try decreasing_trivial) | ((with_reducible show sp_leaf_of er _ _ _); (refine ⟨_, _, _, rfl, by first | omega | (simp only [mkS_len]; omega), by first | exact mkS_l _ | rfl, fun t ht => ?_, fun ht => ?_⟩); try decreasing_trivial) | ((with_reducible show sp_term_at er _ _ _ _); (refine ⟨_, _, _, _, rfl, by omega, by omega, by omega, by first | assumption | rfl, by omega, fun t l ht => ?_, fun ht => ?_⟩); try decreasing_trivial) | ((with_reducible show sp_whole_term er _ _ _); (refine ⟨_, _, rfl, by omega, by omega, fun t ht => ?_, fun ht => ?_⟩); try decreasing_trivial) | ((with_reducible show sp_read_term er _ _ _); (refine ⟨_, rfl, by omega, by omega, fun t ht => ?_, fun ht => ?_⟩); try decreasing_trivial) | ((with_reducible show sp_term_text _ _ _ _); (refine ⟨_, rfl, by first | assumption | omega, by assumption, by omega, ?_⟩); try decreasing_trivial) | ((with_reducible show sp_law_term_text _ _ _ _); (refine ⟨_, rfl, by first | assumption | omega, by assumption, by omega, ?_⟩); try decreasing_trivial) | ((with_reducible show sp_law_kept _ _ _); (refine ⟨rfl, ?_⟩); try decreasing_trivial) | ((with_reducible show sp_law_word _ _ _); (refine ⟨_, _, rfl, fun wd a b wx => ?_⟩); try decreasing_trivial) | ((with_reducible show sp_law_any_term _ _ _ _); (first | refine ⟨_, _, _, _, _, rfl, by assumption, by assumption, by omega, by omega, by omega, by omega, fun t a b t1 t2 t3 => ?_⟩ | refine ⟨_, _, [_, _], _, _, rfl, by decide, by decide, by omega, by omega, by omega, by omega, fun t a b t1 t2 t3 => ?_⟩ | refine ⟨_, _, _, _, _, rfl, by assumption, by assumption, by omega, by omega, by omega, by omega, fun t a b t1 t2 t3 => ?_⟩ | refine ⟨_, _, _, _, _, rfl, by omega, by omega, by omega, by omega, by omega, by omega, fun t a b t1 t2 t3 => ?_⟩); try decreasing_trivial) | ((with_reducible show sp_law_alike _ _ _ _); (refine ⟨_, _, rfl, by assumption, by omega, ?_⟩); try decreasing_trivial) | ((with_reducible refine px_0 ?sd ?_); (case sd => (first | omega | (simp only [List.length_map, List.length_append, List.length_cons, List.length_nil, List.length_set, List.length_take, List.length_drop, List.length_range, List.length_reverse]; omega))); try decreasing_trivial) | ((with_reducible refine px_1 ?sd ?_); (case sd => (first | omega | (simp only [List.length_map, List.length_append, List.length_cons, List.length_nil, List.length_set, List.length_take, List.length_drop, List.length_range, List.length_reverse]; omega))); try decreasing_trivial) | ((with_reducible refine px_2 ?sd ?_); (case sd => (first | omega | (simp only [List.length_map, List.length_append, List.length_cons, List.length_nil, List.length_set, List.length_take, List.length_drop, List.length_range, List.length_reverse]; omega))); try decreasing_trivial) | ((with_reducible refine px_3 ?sd ?_); (case sd => (first | omega | (simp only [List.length_map, List.length_append, List.length_cons, List.length_nil, List.length_set, List.length_take, List.length_drop, List.length_range, List.length_reverse]; omega))); try decreasing_trivial) | ((with_reducible refine px_m1 ?sd ?_); (case sd => (first | omega | (simp only [List.length_map, List.length_append, List.length_cons, List.length_nil, List.length_set, List.length_take, List.length_drop, List.length_range, List.length_reverse]; omega))); try decreasing_trivial) | ((with_reducible refine px_i ?s1 ?s2 ?_); (case s1 => (first | omega | (simp only [List.length_map, List.length_append, List.length_cons, List.length_nil, List.length_set, List.length_take, List.length_drop, List.length_range, List.length_reverse]; omega))); (case s2 => (first | omega | (simp only [List.length_map, List.length_append, List.length_cons, List.length_nil, List.length_set, List.length_take, List.length_drop, List.length_range, List.length_reverse]; omega))); try decreasing_trivial) | ((with_reducible refine' ix_0 ?sd ?_); (case sd => exact rfl); try decreasing_trivial) | ((with_reducible refine' ix_1 ?sd ?_); (case sd => exact rfl); try decreasing_trivial) | ((with_reducible refine' ix_2 ?sd ?_); (case sd => exact rfl); try decreasing_trivial) | ((with_reducible refine' ix_3 ?sd ?_); (case sd => exact rfl); try decreasing_trivial) | ((with_reducible refine' ix_4 ?sd ?_); (case sd => exact rfl); try decreasing_trivial) | ((with_reducible refine' ix_5 ?sd ?_); (case sd => exact rfl); try decreasing_trivial) | ((with_reducible refine' ix_m1 ?sd ?_); (case sd => exact rfl); try decreasing_trivial) | ((with_reducible refine' ix_m2 ?sd ?_); (case sd => exact rfl); try decreasing_trivial) | (((rw [rqa])); try decreasing_trivial) | (((rw [rqb])); try decreasing_trivial) | (((rw [ewn])); try decreasing_trivial) | (((with_reducible refine' Exists.intro _ (And.intro rea ?_))); try decreasing_trivial) | (((with_reducible refine ix_am1 ?_)); try decreasing_trivial) | (((with_reducible refine ix_am2 ?_)); try decreasing_trivial) | ((((with_reducible refine ix_map ?s1 ?s2 (fun x mx me => ?_)); (case s1 => (first | omega | (simp only [List.length_map]; omega) | (simp only [List.length_map]; exact Int.emod_nonneg _ (by omega)) | (simp only [List.length_map]; exact Int.emod_lt_of_pos _ (by omega)))); (case s2 => (first | omega | (simp only [List.length_map]; omega) | (simp only [List.length_map]; exact Int.emod_nonneg _ (by omega)) | (simp only [List.length_map]; exact Int.emod_lt_of_pos _ (by omega)))))); try decreasing_trivial) | ((((with_reducible refine ix_lett ?s1 ?s2 ?_); (case s1 => omega); (case s2 => omega))); try decreasing_trivial) | ((((with_reducible refine ix_sgnM (m := 6) ?s0 ?s1 ?s2 (fun v mv => ?_)); (case s0 => decide +kernel); (case s1 => omega); (case s2 => omega))); try decreasing_trivial) | ((((with_reducible refine ix_sgnM (m := 7) ?s0 ?s1 ?s2 (fun v mv => ?_)); (case s0 => decide +kernel); (case s1 => omega); (case s2 => omega))); try decreasing_trivial) | ((((with_reducible refine ix_i2 ?s1 ?s2 (fun v vi => ?_)); (case s1 => omega); (case s2 => omega))); try decreasing_trivial) | ((((with_reducible refine ix_i3 ?s1 ?s2 (fun v vi => ?_)); (case s1 => omega); (case s2 => omega))); try decreasing_trivial) | ((((with_reducible refine ix_i6 ?s1 ?s2 (fun v vi => ?_)); (case s1 => omega); (case s2 => omega))); try decreasing_trivial) | ((((with_reducible refine ix_cons ?s1 (fun ei => ?_) (fun ei => ?_)); (case s1 => omega))); try decreasing_trivial) | ((((with_reducible refine ix_nil ?s1); (case s1 => omega))); try decreasing_trivial) | ((((with_reducible refine ix_let2 ?s1 ?s2 ?_); (case s1 => omega); (case s2 => omega))); try decreasing_trivial) | ((with_reducible refine' Exists.intro _ (And.intro ?sd ?_)); (case sd => exact rfl); try decreasing_trivial) | ((with_reducible refine iteB (fun c => ?_) (fun c => ?_)) <;> (try simp only [decide_eq_true_eq, decide_eq_false_iff_not, Bool.not_eq_true', Bool.not_eq_false', id, List.length_map, eqv_int, eqv_str, List.any_cons, List.any_nil, Bool.or_eq_true, Bool.or_false, Bool.or_eq_false_iff] at c) <;> (try exact absurd c (by assumption)) <;> (try exact absurd (by assumption) c) <;> (try exact absurd c (by decide +kernel)) <;> (try exact absurd (c.symm.trans (show _ = true by assumption)) (by decide)) <;> (try exact absurd (c.symm.trans (show _ = false by assumption)) (by decide)) <;> (try decreasing_trivial)) | ((with_reducible refine' Exists.intro _ (And.intro kit_bb ?_)); try decreasing_trivial) | ((with_reducible refine' Exists.intro _ (And.intro kit_ll ?_)); try decreasing_trivial) | ((with_reducible refine' Exists.intro _ (And.intro kit_tt ?_)); try decreasing_trivial) | ((with_reducible refine' Exists.intro _ (And.intro kit_dd ?_)); try decreasing_trivial) | ((with_reducible refine' Exists.intro _ (And.intro kit_ii ?_)); try decreasing_trivial) | ((with_reducible refine' Exists.intro _ (And.intro kit_ss ?_)); try decreasing_trivial) | ((with_reducible refine' Exists.intro _ (And.intro kit_ib ?_)); try decreasing_trivial) | ((with_reducible refine' Exists.intro _ (And.intro kit_bi ?_)); try decreasing_trivial) | ((with_reducible refine dv_hit ?sd ?_); (case sd => first | exact rfl | decide +kernel); try decreasing_trivial) | ((with_reducible refine dv_miss ?sd ?_); (case sd => decide +kernel); try decreasing_trivial) | ((first | rw [inx_set] | rw [inx_tell] | rw [inx_ifr] | rw [inx_whl] | rw [inx_tms]); try decreasing_trivial) | ((first | rw [cut_lo1] | rw [cut_hi1] | rw [cut_lo2] | rw [cut_hi2] | rw [cut_lo3] | rw [cut_hi3] | rw [cut_lo4] | rw [cut_hi4] | rw [cut_lo5] | rw [cut_hi5] | rw [cut_lo6] | rw [cut_hi6]); try decreasing_trivial))))
section
variable {P : Program} {w : World} {K : PySem.W.Frag} {mg : Str → Option Value} {base : Heap} {fa : Addr} {fd : FuncData}
abbrev s_read_term : Stmt := top 19
abbrev n_read_term : List Str := ["text"]
theorem sc_read_term : FnScope n_read_term ["text"] (defScope s_read_term) := ⟨rfl, rfl, rfl, by decide +kernel, rfl, by decide +kernel, by decide +kernel⟩
theorem ok_read_term {er : PySem.Str → Addr} (F : Fun K "read_term" "read_term" s_read_term fa fd) (c_whole_term : DefOk P w K mg base "whole_term" 43 ["text", "at"] [] (sp_whole_term er)) :
    FnV P w K mg base 44 fa fd ["text"] [] (sp_read_term er) := by
  refine FnV.of F sc_read_term (fun os k kx h => by obtain ⟨x, rfl, _⟩ := h; rfl) fun cdv A outer s H E hg hr => ⟨_, _, (js_one (js_ret (je_call [] c_whole_term hg hr (by first | decide | exact Nat.le_refl _ | omega) (takes_of rfl rfl rfl rfl) rfl (ja_cons (je_var 0) (ja_cons je_int ja_nil))))), fun os kk kx h => ?_⟩
  obtain ⟨x, rfl, h0, hc, k1, k2⟩ := h
  try dsimp only [n_read_term, List.length_cons, List.length_nil, Nat.reduceAdd, Nat.reduceSub]
  try decreasing_trivial
  trivial
  all_goals first | exact k1 _ ht | exact k2 ht | trace_state
end
end KR

namespace KR
open PySem PySem.Spec PyProof.Rows L2 VL
set_option hygiene false
local macro_rules | `(tactic| decreasing_trivial) => `(tactic| dsimp only [x_aNil, x_aCons, x_rOp, x_rOu, x_rVar, x_rC, x_rT, x_rTand, x_rTor, x_rTnot, x_rAnd, x_rOr, x_rNot, x_rIf, x_rOt, x_rNewD, x_rSlLU, x_rSlL, x_rSlU, x_rChain, x_sNil, x_sSeq, x_sBreak, x_sCont, x_sExpr, x_sRet, x_sRetN, x_sIf, x_sSet, x_rMv, x_rFz, x_rMt, x_rMr, x_sSetL, x_rCall, x_bName, x_bTup, x_rSeq, x_rRange1, x_rRange2, x_sFor, x_rLc, x_rYes, x_rIsi1, x_rM0, x_rM1, x_aLate, x_sPar, x_sAug, x_tt, x_ff, x_bNames0, x_bNames1, x_lcT, x_wipe0, x_wipe1, x_AN_of_nx, x_AN_of_rt, x_AN_of_ex, x_seq_nx, x_seq_rt, x_seq_bk, x_seq_ct, x_seq_ex, x_loop_nx, x_loop_rt, x_loop_bk, x_loop_ct, x_loop_ex, x_grd_p, x_grd_ow, x_grd_sl, x_grd_vw, x_vwO_p, x_vwO_ls, x_vwO_lo, x_vwO_dc, x_vwO_dco, x_vwO_ins, x_vwO_fl, x_datL0, x_datL1, x_dat_p, x_dat_sl, x_dat_vw, x_dat_ow, x_sh_p, x_sh_ls, x_sh_dc, x_datu_p, x_datu_ls, x_datu_dc, x_datu_fl, x_datu_vw, x_datu_ow, x_takes0, x_takes_p, x_takes_ow, x_map_some, x_frz_p, x_frz_ls, x_frz_dc, x_take1_p, x_take1_ow, x_own1_p, x_own1_ow, x_slots_p, x_slots_sl, x_slots_ow, x_vwp_sl, x_vwp_vw, x_toO_p, x_toO_sl, x_toO_ow, x_wb_sl, x_wb_p, x_wb_ow, x_wb0, x_wb00, x_seqM_list, x_seqM_tuple, x_seqM_str, x_isI, x_all, x_any, x_join_l, x_join_t, x_add_i, x_add_s, x_add_l, x_add_t, x_sub, x_mod, x_div, x_pow, x_mul_i, x_mul_s, x_neg, x_cmp, x_eq, x_eq_s, x_eq_i, x_eq_b, x_eq_n, x_eq_ns, x_eq_sn, x_eq_is, x_eq_si, x_eq_ll, x_eq_t2, x_isN_n, x_isN_i, x_isN_s, x_isN_l, x_isN_t, x_in_s, x_in_sl, x_in_il, x_in_tl, x_in_st, x_in_it, x_len_s, x_len_l, x_len_t, x_ix_l, x_ix_t, x_ix_s, x_tup, x_lst, x_sl_s, x_sl_l, x_sl_t, x_append, x_extend, x_max_i, x_max_l, x_min, x_int_i, x_int_b, x_listOf_l, x_listOf_t, x_tupOf_l, x_tupOf_t, x_repr_i, x_repr_l, x_repr_t, x_map0, x_map1, x_app0, x_app1, x_set0, x_setS, x_get0, x_getS, x_Tr_num, x_Tr_cel, x_Tr_inn, x_Tr_op, x_forW0, x_forW1, x_lcW0, x_lcW1, x_drop1, x_drop0, x_dropn, x_take1s, x_take0, x_taken, x_ty_l, x_ty_t, x_ty_i, x_ty_b, x_ty_s, x_ty_d, x_rDisp, x_rDispN, x_sSetD, x_rGet2, x_rEnum, x_ixX_ds, x_ixX_di, x_ixX_l, x_ixX_t, x_ixX_s, x_inX_ds, x_inX_di, x_inX_s, x_inX_sl, x_inX_il, x_inX_tl, x_inX_st, x_inX_it, x_lenX_d, x_lenX_s, x_lenX_l, x_lenX_t, x_mulY_t, x_mulY_i, x_mulY_s, x_kD_i, x_kD_s, x_kP_i, x_kP_s, x_zip1, x_zip0, x_mClear, x_mReverse, x_enum0, x_scene_map, x_scene_len, x_Row_set, x_Row_tell, x_Row_ifr, x_Row_whl, x_Row_tms, x_bod_set, x_bod_tell, x_bod_ifr, x_bod_whl, x_bod_tms, x_enum1, x_enum2, x_wayO_some, x_wayO_none, x_i01, x_i11, x_sRaise1, x_sRaise0, x_sTry, x_rIs, x_rFld, x_rIsTu, x_tr_nx, x_tr_rt, x_tr_bk, x_tr_ct, x_tr_ex, x_su_nx, x_su_rt, x_su_bk, x_su_ct, x_isB, x_rp, x_held0, x_heldS, x_sUnp, x_sUnl, x_rRm, x_cnt, x_idx, x_sidx, x_tyOk_l, x_tyOk_s, x_tyOk_d, x_nc0, x_nc1, x_nc2, x_nc3, x_nc4, x_nc5, x_nc6, x_nc7, x_nc8, x_nc9, x_rRev, x_rZip, x_rsl0, x_rsl1, x_intX_s, x_intX_i, x_intX_b, x_strX_s, x_strX_i, List.map_nil, List.map_cons, List.cons_append, List.nil_append, List.append_nil, List.replicate_succ, List.replicate_zero, List.length_cons, List.length_nil, List.contains, List.elem, Nat.reduceBEq, Nat.reduceAdd, Nat.reduceSub, List.all_nil, List.all_cons, Int.reduceNeg, Int.reduceSub, Int.reduceAdd, id])
local macro_rules | `(tactic| trivial) => `(tactic| repeat (any_goals (first | ((with_reducible refine And.intro ?sd ?_); (case sd => (first | exact rfl | omega | assumption | (simp only [List.length_map, List.length_append, List.length_cons, List.length_nil, List.length_set, List.length_take, List.length_drop, List.length_range, List.length_reverse]; omega) | exact small (by omega) | exact cut_le (by omega) | exact sl_add (by first | omega | decide +kernel | exact cut_le (by omega) | exact up_le (by omega) | exact up_le (cut_le (by omega)) | exact app_le (by exact up_le4 (cut_le (by omega))) (by exact cut_le (by omega)) | exact app_le (by decide) (by omega) | exact app_le (by first | omega | exact cut_le (by omega)) (by first | omega | exact cut_le (by omega))) (by first | omega | decide +kernel | exact cut_le (by omega) | exact up_le (by omega) | exact up_le (cut_le (by omega)) | exact app_le (by exact up_le4 (cut_le (by omega))) (by exact cut_le (by omega)) | exact app_le (by decide) (by omega) | exact app_le (by first | omega | exact cut_le (by omega)) (by first | omega | exact cut_le (by omega))) | exact ⟨by omega, by omega⟩ | exact Or.inr ⟨by decide, by decide⟩ | exact Or.inl ⟨by omega, by omega⟩ | exact Or.inl ⟨by decide, by decide⟩ | exact ⟨by decide, by decide, by decide⟩ | exact small (by simp only [List.length_map, List.length_append, List.length_cons, List.length_nil, List.length_set, List.length_take, List.length_drop, List.length_range, List.length_reverse]; omega) | exact log_ok (by omega) (by omega) | (split <;> omega) | exact small (by rw [rowsD_len]; have := RowsIn.rlen (by assumption); omega) | exact small (by simp only [List.length_append, List.length_cons, List.length_nil, rowsD_len]; omega) | exact Nat.lt_of_lt_of_le (by simp only [List.length_append, List.length_cons, List.length_nil, rowsD_len, List.length_map]; omega : _ < 100000) (by decide) | rfl | decide))) | ((with_reducible refine' Exists.intro _ (And.intro put_scene ?_)); try decreasing_trivial) | ((with_reducible show sp_law_take _ _ _); (first | refine ⟨_, _, _, rfl, by decide, by decide, fun r a b r0 r1 => ?_⟩ | refine ⟨_, _, _, rfl, by omega, by omega, fun r a b r0 r1 => ?_⟩ | (refine ⟨_, _, _, rfl, by simp only [List.length_map]; omega, by simp only [List.length_map]; omega, fun r a b r0 r1 => ?_⟩; simp only [List.length_map] at r1)); try decreasing_trivial) | ((with_reducible show sp_law_feed _ _ _); (refine ⟨_, _, rfl, by omega, by omega, by omega, fun fa fb => ?_⟩); try decreasing_trivial) | ((with_reducible show sp_parts _ _ _ _); (refine ⟨_, rfl, by assumption, by assumption, ?_⟩); try decreasing_trivial) | ((with_reducible show sp_deep _ _ _ _); (refine ⟨_, rfl, by assumption, ?_⟩); try decreasing_trivial) | ((with_reducible show sp_cells _ _ _ _); (refine ⟨_, rfl, by assumption, by assumption, ?_⟩); try decreasing_trivial) | ((with_reducible show sp_law_number _ _ _); (refine ⟨_, _, rfl, fun nv a b n0 n1 => ?_⟩); try decreasing_trivial) | ((with_reducible show sp_law_names _ _ _); (refine ⟨_, _, _, rfl, by omega, by omega, fun ws a b wl wn => ?_⟩); try decreasing_trivial) | ((with_reducible show sp_law_scene _ _ _); (refine ⟨_, _, rfl, fun cs ms a b sc => ?_⟩); try decreasing_trivial) | ((with_reducible show sp_law_mark _ _ _); (refine ⟨_, _, _, rfl, by omega, by omega, by omega, fun m me => ?_⟩); try decreasing_trivial) | ((with_reducible show sp_law_term _ _ _ _); (refine ⟨_, _, _, _, _, _, _, rfl, by omega, by omega, by omega, by omega, by omega, by omega, fun t a b t1 t2 t3 => ?_⟩); try decreasing_trivial) | ((with_reducible show sp_law_row _ _ _ _); (refine ⟨_, _, _, _, _, _, _, rfl, by assumption, by omega, by omega, by omega, by omega, by omega, fun rw a b u l l0 ul ri uu => ?_⟩); try decreasing_trivial) | ((with_reducible show sp_law_body _ _ _ _); (refine ⟨_, _, _, _, _, _, _, rfl, by assumption, by omega, by omega, by omega, by omega, by omega, fun bd a b u l l0 ul ri uu une => ?_⟩); try decreasing_trivial) | ((with_reducible show sp_law_program _ _ _); (refine ⟨_, _, _, _, _, rfl, by assumption, by omega, by omega, fun pr a b u u0 u1 ri pne => ?_⟩); try decreasing_trivial) | ((with_reducible show sp_bodies_in _ _ _); (first | refine ⟨.set _ _ _, rfl, ?_⟩ | refine ⟨.tell _ _, rfl, ?_⟩ | refine ⟨.ifr _ _ _ _, rfl, ?_⟩ | (refine ⟨.whl _ _ _, by exact rfl, ?_⟩) | refine ⟨.tms _ _ _, rfl, ?_⟩ | refine ⟨_, rfl, ?_⟩); try decreasing_trivial) | ((with_reducible show sp_law_bodies _ _ _); (first | refine ⟨.set _ _ _, rfl, ?_⟩ | refine ⟨.tell _ _, rfl, ?_⟩ | refine ⟨.ifr _ _ _ _, rfl, ?_⟩ | (refine ⟨.whl _ _ _, by exact rfl, ?_⟩) | refine ⟨.tms _ _ _, rfl, ?_⟩ | refine ⟨_, rfl, ?_⟩); try decreasing_trivial) | ((with_reducible show sp_rows _ _ _ _); (refine ⟨_, rfl, by omega, by omega, ?_⟩); try decreasing_trivial) | ((with_reducible show sp_marks _ _ _ _); (refine ⟨_, rfl, by omega, by omega, ?_⟩); try decreasing_trivial) | ((with_reducible show sp_way_to _ _ _ _); (refine ⟨_, _, rfl, by omega, by omega, ?_⟩; (try simp only [ha]); (try simp only [hb])); try decreasing_trivial) | ((with_reducible show sp_spot _ _ _ _); (refine ⟨_, _, _, rfl, by assumption, by omega, by omega, ?_⟩; (try rw [esp])); try decreasing_trivial) | ((with_reducible show sp_loops _ _ _ _); (refine ⟨_, _, _, rfl, by assumption, by omega, by omega, ?_⟩); try decreasing_trivial) | ((with_reducible show sp_need_text er _ _ _); (refine ⟨_, _, rfl, fun q => ?_, fun q => ?_⟩); try decreasing_trivial) | ((with_reducible show sp_is_name _ _ _); (refine ⟨_, rfl, by omega, ?_⟩); try decreasing_trivial) | ((with_reducible show sp_is_number _ _ _); (refine ⟨_, rfl, by omega, ?_⟩); try decreasing_trivial) | ((with_reducible show sp_leaf_of er _ _ _); (refine ⟨_, _, _, rfl, by first | omega | (simp only [mkS_len]; omega), by first | exact mkS_l _ | rfl, fun t ht => ?_, fun ht => ?_⟩); try decreasing_trivial) | ((with_reducible show sp_term_at er _ _ _ _); (refine ⟨_, _, _, _, rfl, by omega, by omega, by omega, by first | assumption | rfl, by omega, fun t l ht => ?_, fun ht => ?_⟩); try decreasing_trivial) | ((with_reducible show sp_whole_term er _ _ _); (refine ⟨_, _, rfl, by omega, by omega, fun t ht => ?_, fun ht => ?_⟩); try decreasing_trivial) | ((with_reducible show sp_read_term er _ _ _); (refine ⟨_, rfl, by omega, by omega, fun t ht => ?_, fun ht => ?_⟩); try decreasing_trivial) | ((with_reducible show sp_term_text _ _ _ _); (refine ⟨_, rfl, by first | assumption | omega, by assumption, by omega, ?_⟩); try decreasing_trivial) | ((with_reducible show sp_law_term_text _ _ _ _); (refine ⟨_, rfl, by first | assumption | omega, by assumption, by omega, ?_⟩); try decreasing_trivial) | ((with_reducible show sp_law_kept _ _ _); (refine ⟨rfl, ?_⟩); try decreasing_trivial) | ((with_reducible show sp_law_word _ _ _); (refine ⟨_, _, rfl, fun wd a b wx => ?_⟩); try decreasing_trivial) | ((with_reducible show sp_law_any_term _ _ _ _); (first | refine ⟨_, _, _, _, _, rfl, by assumption, by assumption, by omega, by omega, by omega, by omega, fun t a b t1 t2 t3 => ?_⟩ | refine ⟨_, _, [_, _], _, _, rfl, by decide, by decide, by omega, by omega, by omega, by omega, fun t a b t1 t2 t3 => ?_⟩ | refine ⟨_, _, _, _, _, rfl, by assumption, by assumption, by omega, by omega, by omega, by omega, fun t a b t1 t2 t3 => ?_⟩ | refine ⟨_, _, _, _, _, rfl, by omega, by omega, by omega, by omega, by omega, by omega, fun t a b t1 t2 t3 => ?_⟩); try decreasing_trivial) | ((with_reducible show sp_law_alike _ _ _ _); (refine ⟨_, _, rfl, by assumption, by omega, ?_⟩); try decreasing_trivial) | ((with_reducible refine px_0 ?sd ?_); (case sd => (first | omega | (simp only [List.length_map, List.length_append, List.length_cons, List.length_nil, List.length_set, List.length_take, List.length_drop, List.length_range, List.length_reverse]; omega))); try decreasing_trivial) | ((with_reducible refine px_1 ?sd ?_); (case sd => (first | omega | (simp only [List.length_map, List.length_append, List.length_cons, List.length_nil, List.length_set, List.length_take, List.length_drop, List.length_range, List.length_reverse]; omega))); try decreasing_trivial) | ((with_reducible refine px_2 ?sd ?_); (case sd => (first | omega | (simp only [List.length_map, List.length_append, List.length_cons, List.length_nil, List.length_set, List.length_take, List.length_drop, List.length_range, List.length_reverse]; omega))); try decreasing_trivial) | ((with_reducible refine px_3 ?sd ?_); (case sd => (first | omega | (simp only [List.length_map, List.length_append, List.length_cons, List.length_nil, List.length_set, List.length_take, List.length_drop, List.length_range, List.length_reverse]; omega))); try decreasing_trivial) | ((with_reducible refine px_m1 ?sd ?_); (case sd => (first | omega | (simp only [List.length_map, List.length_append, List.length_cons, List.length_nil, List.length_set, List.length_take, List.length_drop, List.length_range, List.length_reverse]; omega))); try decreasing_trivial) | ((with_reducible refine px_i ?s1 ?s2 ?_); (case s1 => (first | omega | (simp only [List.length_map, List.length_append, List.length_cons, List.length_nil, List.length_set, List.length_take, List.length_drop, List.length_range, List.length_reverse]; omega))); (case s2 => (first | omega | (simp only [List.length_map, List.length_append, List.length_cons, List.length_nil, List.length_set, List.length_take, List.length_drop, List.length_range, List.length_reverse]; omega))); try decreasing_trivial) | ((with_reducible refine' ix_0 ?sd ?_); (case sd => exact rfl); try decreasing_trivial) | ((with_reducible refine' ix_1 ?sd ?_); (case sd => exact rfl); try decreasing_trivial) | ((with_reducible refine' ix_2 ?sd ?_); (case sd => exact rfl); try decreasing_trivial) | ((with_reducible refine' ix_3 ?sd ?_); (case sd => exact rfl); try decreasing_trivial) | ((with_reducible refine' ix_4 ?sd ?_); (case sd => exact rfl); try decreasing_trivial) | ((with_reducible refine' ix_5 ?sd ?_); (case sd => exact rfl); try decreasing_trivial) | ((with_reducible refine' ix_m1 ?sd ?_); (case sd => exact rfl); try decreasing_trivial) | ((with_reducible refine' ix_m2 ?sd ?_); (case sd => exact rfl); try decreasing_trivial) | (((rw [rqa])); try decreasing_trivial) | (((rw [rqb])); try decreasing_trivial) | (((rw [ewn])); try decreasing_trivial) | (((with_reducible refine' Exists.intro _ (And.intro rea ?_))); try decreasing_trivial) | (((with_reducible refine ix_am1 ?_)); try decreasing_trivial) | (((with_reducible refine ix_am2 ?_)); try decreasing_trivial) | ((((with_reducible refine ix_map ?s1 ?s2 (fun x mx me => ?_)); (case s1 => (first | omega | (simp only [List.length_map]; omega) | (simp only [List.length_map]; exact Int.emod_nonneg _ (by omega)) | (simp only [List.length_map]; exact Int.emod_lt_of_pos _ (by omega)))); (case s2 => (first | omega | (simp only [List.length_map]; omega) | (simp only [List.length_map]; exact Int.emod_nonneg _ (by omega)) | (simp only [List.length_map]; exact Int.emod_lt_of_pos _ (by omega)))))); try decreasing_trivial) | ((((with_reducible refine ix_lett ?s1 ?s2 ?_); (case s1 => omega); (case s2 => omega))); try decreasing_trivial) | ((((with_reducible refine ix_sgnM (m := 6) ?s0 ?s1 ?s2 (fun v mv => ?_)); (case s0 => decide +kernel); (case s1 => omega); (case s2 => omega))); try decreasing_trivial) | ((((with_reducible refine ix_sgnM (m := 7) ?s0 ?s1 ?s2 (fun v mv => ?_)); (case s0 => decide +kernel); (case s1 => omega); (case s2 => omega))); try decreasing_trivial) | ((((with_reducible refine ix_i2 ?s1 ?s2 (fun v vi => ?_)); (case s1 => omega); (case s2 => omega))); try decreasing_trivial) | ((((with_reducible refine ix_i3 ?s1 ?s2 (fun v vi => ?_)); (case s1 => omega); (case s2 => omega))); try decreasing_trivial) | ((((with_reducible refine ix_i6 ?s1 ?s2 (fun v vi => ?_)); (case s1 => omega); (case s2 => omega))); try decreasing_trivial) | ((((with_reducible refine ix_cons ?s1 (fun ei => ?_) (fun ei => ?_)); (case s1 => omega))); try decreasing_trivial) | ((((with_reducible refine ix_nil ?s1); (case s1 => omega))); try decreasing_trivial) | ((((with_reducible refine ix_let2 ?s1 ?s2 ?_); (case s1 => omega); (case s2 => omega))); try decreasing_trivial) | ((with_reducible refine' Exists.intro _ (And.intro ?sd ?_)); (case sd => exact rfl); try decreasing_trivial) | ((with_reducible refine iteB (fun c => ?_) (fun c => ?_)) <;> (try simp only [decide_eq_true_eq, decide_eq_false_iff_not, Bool.not_eq_true', Bool.not_eq_false', id, List.length_map, eqv_int, eqv_str, List.any_cons, List.any_nil, Bool.or_eq_true, Bool.or_false, Bool.or_eq_false_iff] at c) <;> (try exact absurd c (by assumption)) <;> (try exact absurd (by assumption) c) <;> (try exact absurd c (by decide +kernel)) <;> (try exact absurd (c.symm.trans (show _ = true by assumption)) (by decide)) <;> (try exact absurd (c.symm.trans (show _ = false by assumption)) (by decide)) <;> (try decreasing_trivial)) | ((with_reducible refine' Exists.intro _ (And.intro kit_bb ?_)); try decreasing_trivial) | ((with_reducible refine' Exists.intro _ (And.intro kit_ll ?_)); try decreasing_trivial) | ((with_reducible refine' Exists.intro _ (And.intro kit_tt ?_)); try decreasing_trivial) | ((with_reducible refine' Exists.intro _ (And.intro kit_dd ?_)); try decreasing_trivial) | ((with_reducible refine' Exists.intro _ (And.intro kit_ii ?_)); try decreasing_trivial) | ((with_reducible refine' Exists.intro _ (And.intro kit_ss ?_)); try decreasing_trivial) | ((with_reducible refine' Exists.intro _ (And.intro kit_ib ?_)); try decreasing_trivial) | ((with_reducible refine' Exists.intro _ (And.intro kit_bi ?_)); try decreasing_trivial) | ((with_reducible refine dv_hit ?sd ?_); (case sd => first | exact rfl | decide +kernel); try decreasing_trivial) | ((with_reducible refine dv_miss ?sd ?_); (case sd => decide +kernel); try decreasing_trivial) | ((first | rw [inx_set] | rw [inx_tell] | rw [inx_ifr] | rw [inx_whl] | rw [inx_tms]); try decreasing_trivial) | ((first | rw [cut_lo1] | rw [cut_hi1] | rw [cut_lo2] | rw [cut_hi2] | rw [cut_lo3] | rw [cut_hi3] | rw [cut_lo4] | rw [cut_hi4] | rw [cut_lo5] | rw [cut_hi5] | rw [cut_lo6] | rw [cut_hi6]); try decreasing_trivial))))
section
variable {P : Program} {w : World} {K : PySem.W.Frag} {mg : Str → Option Value} {base : Heap} {fa : Addr} {fd : FuncData}
abbrev s_term_text : Stmt := top 9
abbrev n_term_text : List Str := ["term"]
theorem sc_term_text : FnScope n_term_text ["term"] (defScope s_term_text) := ⟨rfl, rfl, rfl, by decide +kernel, rfl, by decide +kernel, by decide +kernel⟩
theorem ok_term_text {n : Nat} (F : Fun K "term_text" "term_text" s_term_text fa fd) (c_term_text : DefOk P w K mg base "term_text" n ["term"] [] (sp_term_text n)) (z_str : mg "str" = none) :
    FnV P w K mg base (n + 1) fa fd ["term"] [] (sp_term_text (n + 1)) := by
  refine FnV.of F sc_term_text (fun os k kx h => by obtain ⟨t, rfl, _⟩ := h; rfl) fun cdv A outer s H E hg hr => ⟨_, _, (js_cons (js_if (jt_cmp (op_eqX hr.units) ok_eq (nomark _) (je_ix (ix_X (u1 hr)) ok_ixX (je_var 0) je_int (fun _ _ => rfl)) je_str) (js_one (js_ret (je_bin op_addX ok_add (je_bin op_addX ok_add je_str (je_m1 PySem.F.slot_str_join PySem.F.type_str_join mt_join ok_join je_str (je_lst (ja_cons (je_ix (ix_X (u1 hr)) ok_ixX (je_var 0) je_int (fun _ _ => rfl)) (ja_cons (je_call [] c_term_text hg hr (by first | decide | exact Nat.le_refl _ | omega) (takes_of rfl rfl rfl rfl) rfl (ja_cons (je_ix (ix_X (u1 hr)) ok_ixX (je_var 0) je_int (fun _ _ => rfl)) ja_nil)) (ja_cons (je_call [] c_term_text hg hr (by first | decide | exact Nat.le_refl _ | omega) (takes_of rfl rfl rfl rfl) rfl (ja_cons (je_ix (ix_X (u1 hr)) ok_ixX (je_var 0) je_int (fun _ _ => rfl)) ja_nil)) ja_nil)))))) je_str))) js_nil)
      (js_cons (js_if (jt_cmp (op_eqX hr.units) ok_eq (nomark _) (je_ix (ix_X (u1 hr)) ok_ixX (je_var 0) je_int (fun _ _ => rfl)) je_str) (js_one (js_ret (je_bin op_addX ok_add je_str (je_Ty call_strX ok_strX rfl z_str (by decide +kernel) (ja_cons (je_ix (ix_X (u1 hr)) ok_ixX (je_var 0) je_int (fun _ _ => rfl)) ja_nil))))) js_nil)
      (js_one (js_ret (je_Ty call_strX ok_strX rfl z_str (by decide +kernel) (ja_cons (je_ix (ix_X (u1 hr)) ok_ixX (je_var 0) je_int (fun _ _ => rfl)) ja_nil)))))), fun os kk kx h => ?_⟩
  obtain ⟨t, rfl, hd, ok, hp, k⟩ := h
  have tl := txt_len (fun _ h => h) ok
  cases t with
  | num i =>
    obtain ⟨i0, i1⟩ := ok
    have lg : i.natAbs.log2 < 1920 := log_ok (by omega) (by omega)
    try dsimp only [n_term_text, List.length_cons, List.length_nil, Nat.reduceAdd, Nat.reduceSub]
    try decreasing_trivial
    trivial
    all_goals first | exact k | trace_state
  | cel s =>
    try dsimp only [n_term_text, List.length_cons, List.length_nil, Nat.reduceAdd, Nat.reduceSub]
    try decreasing_trivial
    trivial
    all_goals first | exact k | trace_state
  | inn i =>
    obtain ⟨i0, i1⟩ := ok
    have lg : i.natAbs.log2 < 1920 := log_ok (by omega) (by omega)
    have tl2 : ("in" : Str).length + (Str.ofString (toString i)).length ≤ sizeLine := small (by rw [← app_len]; exact Nat.le_trans tl (by show 12 * 1 ≤ _; decide))
    try dsimp only [n_term_text, List.length_cons, List.length_nil, Nat.reduceAdd, Nat.reduceSub]
    try decreasing_trivial
    trivial
    all_goals first | exact k | trace_state
  | op c a b =>
    obtain ⟨oc, oa, ob⟩ := ok
    have d1 : a.down < n := by simp only [Tr.down] at hd; omega
    have d2 : b.down < n := by simp only [Tr.down] at hd; omega
    have pp : a.parts.length + b.parts.length + 1 ≤ 100 := by simpa [Tr.parts] using hp
    have ta := txt_len (fun _ h => h) oa
    have tb := txt_len (fun _ h => h) ob
    have sl : (sg c).length = 1 := rfl
    have z1 : (Str.ofString "(").length = 1 := by decide +kernel
    have z2 : (Str.ofString " ").length = 1 := by decide +kernel
    have z3 : (Str.ofString ")").length = 1 := by decide +kernel
    have jl := join3_len (sg c) a.txt b.txt
    have k : kk (R.p (PyData.str ("(" ++ sg c ++ " " ++ a.txt ++ " " ++ b.txt ++ ")"))) _ := k
    try dsimp only [n_term_text, List.length_cons, List.length_nil, Nat.reduceAdd, Nat.reduceSub]
    try decreasing_trivial
    trivial
    refine ⟨Nat.le_trans (by simp only [List.sum_cons, List.sum_nil]; omega : _ ≤ 10000) (by decide), small (by omega), small (by rw [app_len]; omega), ?_⟩
    rw [join3]
    exact k
end
end KR

namespace KR
open PySem PySem.Spec PyProof.Rows L2 VL
set_option hygiene false
local macro_rules | `(tactic| decreasing_trivial) => `(tactic| dsimp only [x_aNil, x_aCons, x_rOp, x_rOu, x_rVar, x_rC, x_rT, x_rTand, x_rTor, x_rTnot, x_rAnd, x_rOr, x_rNot, x_rIf, x_rOt, x_rNewD, x_rSlLU, x_rSlL, x_rSlU, x_rChain, x_sNil, x_sSeq, x_sBreak, x_sCont, x_sExpr, x_sRet, x_sRetN, x_sIf, x_sSet, x_rMv, x_rFz, x_rMt, x_rMr, x_sSetL, x_rCall, x_bName, x_bTup, x_rSeq, x_rRange1, x_rRange2, x_sFor, x_rLc, x_rYes, x_rIsi1, x_rM0, x_rM1, x_aLate, x_sPar, x_sAug, x_tt, x_ff, x_bNames0, x_bNames1, x_lcT, x_wipe0, x_wipe1, x_AN_of_nx, x_AN_of_rt, x_AN_of_ex, x_seq_nx, x_seq_rt, x_seq_bk, x_seq_ct, x_seq_ex, x_loop_nx, x_loop_rt, x_loop_bk, x_loop_ct, x_loop_ex, x_grd_p, x_grd_ow, x_grd_sl, x_grd_vw, x_vwO_p, x_vwO_ls, x_vwO_lo, x_vwO_dc, x_vwO_dco, x_vwO_ins, x_vwO_fl, x_datL0, x_datL1, x_dat_p, x_dat_sl, x_dat_vw, x_dat_ow, x_sh_p, x_sh_ls, x_sh_dc, x_datu_p, x_datu_ls, x_datu_dc, x_datu_fl, x_datu_vw, x_datu_ow, x_takes0, x_takes_p, x_takes_ow, x_map_some, x_frz_p, x_frz_ls, x_frz_dc, x_take1_p, x_take1_ow, x_own1_p, x_own1_ow, x_slots_p, x_slots_sl, x_slots_ow, x_vwp_sl, x_vwp_vw, x_toO_p, x_toO_sl, x_toO_ow, x_wb_sl, x_wb_p, x_wb_ow, x_wb0, x_wb00, x_seqM_list, x_seqM_tuple, x_seqM_str, x_isI, x_all, x_any, x_join_l, x_join_t, x_add_i, x_add_s, x_add_l, x_add_t, x_sub, x_mod, x_div, x_pow, x_mul_i, x_mul_s, x_neg, x_cmp, x_eq, x_eq_s, x_eq_i, x_eq_b, x_eq_n, x_eq_ns, x_eq_sn, x_eq_is, x_eq_si, x_eq_ll, x_eq_t2, x_isN_n, x_isN_i, x_isN_s, x_isN_l, x_isN_t, x_in_s, x_in_sl, x_in_il, x_in_tl, x_in_st, x_in_it, x_len_s, x_len_l, x_len_t, x_ix_l, x_ix_t, x_ix_s, x_tup, x_lst, x_sl_s, x_sl_l, x_sl_t, x_append, x_extend, x_max_i, x_max_l, x_min, x_int_i, x_int_b, x_listOf_l, x_listOf_t, x_tupOf_l, x_tupOf_t, x_repr_i, x_repr_l, x_repr_t, x_map0, x_map1, x_app0, x_app1, x_set0, x_setS, x_get0, x_getS, x_Tr_num, x_Tr_cel, x_Tr_inn, x_Tr_op, x_forW0, x_forW1, x_lcW0, x_lcW1, x_drop1, x_drop0, x_dropn, x_take1s, x_take0, x_taken, x_ty_l, x_ty_t, x_ty_i, x_ty_b, x_ty_s, x_ty_d, x_rDisp, x_rDispN, x_sSetD, x_rGet2, x_rEnum, x_ixX_ds, x_ixX_di, x_ixX_l, x_ixX_t, x_ixX_s, x_inX_ds, x_inX_di, x_inX_s, x_inX_sl, x_inX_il, x_inX_tl, x_inX_st, x_inX_it, x_lenX_d, x_lenX_s, x_lenX_l, x_lenX_t, x_mulY_t, x_mulY_i, x_mulY_s, x_kD_i, x_kD_s, x_kP_i, x_kP_s, x_zip1, x_zip0, x_mClear, x_mReverse, x_enum0, x_scene_map, x_scene_len, x_Row_set, x_Row_tell, x_Row_ifr, x_Row_whl, x_Row_tms, x_bod_set, x_bod_tell, x_bod_ifr, x_bod_whl, x_bod_tms, x_enum1, x_enum2, x_wayO_some, x_wayO_none, x_i01, x_i11, x_sRaise1, x_sRaise0, x_sTry, x_rIs, x_rFld, x_rIsTu, x_tr_nx, x_tr_rt, x_tr_bk, x_tr_ct, x_tr_ex, x_su_nx, x_su_rt, x_su_bk, x_su_ct, x_isB, x_rp, x_held0, x_heldS, x_sUnp, x_sUnl, x_rRm, x_cnt, x_idx, x_sidx, x_tyOk_l, x_tyOk_s, x_tyOk_d, x_nc0, x_nc1, x_nc2, x_nc3, x_nc4, x_nc5, x_nc6, x_nc7, x_nc8, x_nc9, x_rRev, x_rZip, x_rsl0, x_rsl1, x_intX_s, x_intX_i, x_intX_b, x_strX_s, x_strX_i, List.map_nil, List.map_cons, List.cons_append, List.nil_append, List.append_nil, List.replicate_succ, List.replicate_zero, List.length_cons, List.length_nil, List.contains, List.elem, Nat.reduceBEq, Nat.reduceAdd, Nat.reduceSub, List.all_nil, List.all_cons, Int.reduceNeg, Int.reduceSub, Int.reduceAdd, id])
local macro_rules | `(tactic| trivial) => `(tactic| repeat (any_goals (first | ((with_reducible refine And.intro ?sd ?_); (case sd => (first | exact rfl | omega | assumption | (simp only [List.length_map, List.length_append, List.length_cons, List.length_nil, List.length_set, List.length_take, List.length_drop, List.length_range, List.length_reverse]; omega) | exact small (by omega) | exact cut_le (by omega) | exact sl_add (by first | omega | decide +kernel | exact cut_le (by omega) | exact up_le (by omega) | exact up_le (cut_le (by omega)) | exact app_le (by exact up_le4 (cut_le (by omega))) (by exact cut_le (by omega)) | exact app_le (by decide) (by omega) | exact app_le (by first | omega | exact cut_le (by omega)) (by first | omega | exact cut_le (by omega))) (by first | omega | decide +kernel | exact cut_le (by omega) | exact up_le (by omega) | exact up_le (cut_le (by omega)) | exact app_le (by exact up_le4 (cut_le (by omega))) (by exact cut_le (by omega)) | exact app_le (by decide) (by omega) | exact app_le (by first | omega | exact cut_le (by omega)) (by first | omega | exact cut_le (by omega))) | exact ⟨by omega, by omega⟩ | exact Or.inr ⟨by decide, by decide⟩ | exact Or.inl ⟨by omega, by omega⟩ | exact Or.inl ⟨by decide, by decide⟩ | exact ⟨by decide, by decide, by decide⟩ | exact small (by simp only [List.length_map, List.length_append, List.length_cons, List.length_nil, List.length_set, List.length_take, List.length_drop, List.length_range, List.length_reverse]; omega) | exact log_ok (by omega) (by omega) | (split <;> omega) | exact small (by rw [rowsD_len]; have := RowsIn.rlen (by assumption); omega) | exact small (by simp only [List.length_append, List.length_cons, List.length_nil, rowsD_len]; omega) | exact Nat.lt_of_lt_of_le (by simp only [List.length_append, List.length_cons, List.length_nil, rowsD_len, List.length_map]; omega : _ < 100000) (by decide) | rfl | decide))) | ((with_reducible refine' Exists.intro _ (And.intro put_scene ?_)); try decreasing_trivial) | ((with_reducible show sp_law_take _ _ _); (first | refine ⟨_, _, _, rfl, by decide, by decide, fun r a b r0 r1 => ?_⟩ | refine ⟨_, _, _, rfl, by omega, by omega, fun r a b r0 r1 => ?_⟩ | (refine ⟨_, _, _, rfl, by simp only [List.length_map]; omega, by simp only [List.length_map]; omega, fun r a b r0 r1 => ?_⟩; simp only [List.length_map] at r1)); try decreasing_trivial) | ((with_reducible show sp_law_feed _ _ _); (refine ⟨_, _, rfl, by omega, by omega, by omega, fun fa fb => ?_⟩); try decreasing_trivial) | ((with_reducible show sp_parts _ _ _ _); (refine ⟨_, rfl, by assumption, by assumption, ?_⟩); try decreasing_trivial) | ((with_reducible show sp_deep _ _ _ _); (refine ⟨_, rfl, by assumption, ?_⟩); try decreasing_trivial) | ((with_reducible show sp_cells _ _ _ _); (refine ⟨_, rfl, by assumption, by assumption, ?_⟩); try decreasing_trivial) | ((with_reducible show sp_law_number _ _ _); (refine ⟨_, _, rfl, fun nv a b n0 n1 => ?_⟩); try decreasing_trivial) | ((with_reducible show sp_law_names _ _ _); (refine ⟨_, _, _, rfl, by omega, by omega, fun ws a b wl wn => ?_⟩); try decreasing_trivial) | ((with_reducible show sp_law_scene _ _ _); (refine ⟨_, _, rfl, fun cs ms a b sc => ?_⟩); try decreasing_trivial) | ((with_reducible show sp_law_mark _ _ _); (refine ⟨_, _, _, rfl, by omega, by omega, by omega, fun m me => ?_⟩); try decreasing_trivial) | ((with_reducible show sp_law_term _ _ _ _); (refine ⟨_, _, _, _, _, _, _, rfl, by omega, by omega, by omega, by omega, by omega, by omega, fun t a b t1 t2 t3 => ?_⟩); try decreasing_trivial) | ((with_reducible show sp_law_row _ _ _ _); (refine ⟨_, _, _, _, _, _, _, rfl, by assumption, by omega, by omega, by omega, by omega, by omega, fun rw a b u l l0 ul ri uu => ?_⟩); try decreasing_trivial) | ((with_reducible show sp_law_body _ _ _ _); (refine ⟨_, _, _, _, _, _, _, rfl, by assumption, by omega, by omega, by omega, by omega, by omega, fun bd a b u l l0 ul ri uu une => ?_⟩); try decreasing_trivial) | ((with_reducible show sp_law_program _ _ _); (refine ⟨_, _, _, _, _, rfl, by assumption, by omega, by omega, fun pr a b u u0 u1 ri pne => ?_⟩); try decreasing_trivial) | ((with_reducible show sp_bodies_in _ _ _); (first | refine ⟨.set _ _ _, rfl, ?_⟩ | refine ⟨.tell _ _, rfl, ?_⟩ | refine ⟨.ifr _ _ _ _, rfl, ?_⟩ | (refine ⟨.whl _ _ _, by exact rfl, ?_⟩) | refine ⟨.tms _ _ _, rfl, ?_⟩ | refine ⟨_, rfl, ?_⟩); try decreasing_trivial) | ((with_reducible show sp_law_bodies _ _ _); (first | refine ⟨.set _ _ _, rfl, ?_⟩ | refine ⟨.tell _ _, rfl, ?_⟩ | refine ⟨.ifr _ _ _ _, rfl, ?_⟩ | (refine ⟨.whl _ _ _, by exact rfl, ?_⟩) | refine ⟨.tms _ _ _, rfl, ?_⟩ | refine ⟨_, rfl, ?_⟩); try decreasing_trivial) | ((with_reducible show sp_rows _ _ _ _); (refine ⟨_, rfl, by omega, by omega, ?_⟩); try decreasing_trivial) | ((with_reducible show sp_marks _ _ _ _); (refine ⟨_, rfl, by omega, by omega, ?_⟩); try decreasing_trivial) | ((with_reducible show sp_way_to _ _ _ _); (refine ⟨_, _, rfl, by omega, by omega, ?_⟩; (try simp only [ha]); (try simp only [hb])); try decreasing_trivial) | ((with_reducible show sp_spot _ _ _ _); (refine ⟨_, _, _, rfl, by assumption, by omega, by omega, ?_⟩; (try rw [esp])); try decreasing_trivial) | ((with_reducible show sp_loops _ _ _ _); (refine ⟨_, _, _, rfl, by assumption, by omega, by omega, ?_⟩); try decreasing_trivial) | ((with_reducible show sp_need_text er _ _ _); (refine ⟨_, _, rfl, fun q => ?_, fun q => ?_⟩); try decreasing_trivial) | ((with_reducible show sp_is_name _ _ _); (refine ⟨_, rfl, by omega, ?_⟩); try decreasing_trivial) | ((with_reducible show sp_is_number _ _ _); (refine ⟨_, rfl, by omega, ?_⟩); try decreasing_trivial) | ((with_reducible show sp_leaf_of er _ _ _); (refine ⟨_, _, _, rfl, by first | omega | (simp only [mkS_len]; omega), by first | exact mkS_l _ | rfl, fun t ht => ?_, fun ht => ?_⟩); try decreasing_trivial) | ((with_reducible show sp_term_at er _ _ _ _); (refine ⟨_, _, _, _, rfl, by omega, by omega, by omega, by first | assumption | rfl, by omega, fun t l ht => ?_, fun ht => ?_⟩); try decreasing_trivial) | ((with_reducible show sp_whole_term er _ _ _); (refine ⟨_, _, rfl, by omega, by omega, fun t ht => ?_, fun ht => ?_⟩); try decreasing_trivial) | ((with_reducible show sp_read_term er _ _ _); (refine ⟨_, rfl, by omega, by omega, fun t ht => ?_, fun ht => ?_⟩); try decreasing_trivial) | ((with_reducible show sp_term_text _ _ _ _); (refine ⟨_, rfl, by first | assumption | omega, by assumption, by omega, ?_⟩); try decreasing_trivial) | ((with_reducible show sp_law_term_text _ _ _ _); (refine ⟨_, rfl, by first | assumption | omega, by assumption, by omega, ?_⟩); try decreasing_trivial) | ((with_reducible show sp_law_kept _ _ _); (refine ⟨rfl, ?_⟩); try decreasing_trivial) | ((with_reducible show sp_law_word _ _ _); (refine ⟨_, _, rfl, fun wd a b wx => ?_⟩); try decreasing_trivial) | ((with_reducible show sp_law_any_term _ _ _ _); (first | refine ⟨_, _, _, _, _, rfl, by assumption, by assumption, by omega, by omega, by omega, by omega, fun t a b t1 t2 t3 => ?_⟩ | refine ⟨_, _, [_, _], _, _, rfl, by decide, by decide, by omega, by omega, by omega, by omega, fun t a b t1 t2 t3 => ?_⟩ | refine ⟨_, _, _, _, _, rfl, by assumption, by assumption, by omega, by omega, by omega, by omega, fun t a b t1 t2 t3 => ?_⟩ | refine ⟨_, _, _, _, _, rfl, by omega, by omega, by omega, by omega, by omega, by omega, fun t a b t1 t2 t3 => ?_⟩); try decreasing_trivial) | ((with_reducible show sp_law_alike _ _ _ _); (refine ⟨_, _, rfl, by assumption, by omega, ?_⟩); try decreasing_trivial) | ((with_reducible refine px_0 ?sd ?_); (case sd => (first | omega | (simp only [List.length_map, List.length_append, List.length_cons, List.length_nil, List.length_set, List.length_take, List.length_drop, List.length_range, List.length_reverse]; omega))); try decreasing_trivial) | ((with_reducible refine px_1 ?sd ?_); (case sd => (first | omega | (simp only [List.length_map, List.length_append, List.length_cons, List.length_nil, List.length_set, List.length_take, List.length_drop, List.length_range, List.length_reverse]; omega))); try decreasing_trivial) | ((with_reducible refine px_2 ?sd ?_); (case sd => (first | omega | (simp only [List.length_map, List.length_append, List.length_cons, List.length_nil, List.length_set, List.length_take, List.length_drop, List.length_range, List.length_reverse]; omega))); try decreasing_trivial) | ((with_reducible refine px_3 ?sd ?_); (case sd => (first | omega | (simp only [List.length_map, List.length_append, List.length_cons, List.length_nil, List.length_set, List.length_take, List.length_drop, List.length_range, List.length_reverse]; omega))); try decreasing_trivial) | ((with_reducible refine px_m1 ?sd ?_); (case sd => (first | omega | (simp only [List.length_map, List.length_append, List.length_cons, List.length_nil, List.length_set, List.length_take, List.length_drop, List.length_range, List.length_reverse]; omega))); try decreasing_trivial) | ((with_reducible refine px_i ?s1 ?s2 ?_); (case s1 => (first | omega | (simp only [List.length_map, List.length_append, List.length_cons, List.length_nil, List.length_set, List.length_take, List.length_drop, List.length_range, List.length_reverse]; omega))); (case s2 => (first | omega | (simp only [List.length_map, List.length_append, List.length_cons, List.length_nil, List.length_set, List.length_take, List.length_drop, List.length_range, List.length_reverse]; omega))); try decreasing_trivial) | ((with_reducible refine' ix_0 ?sd ?_); (case sd => exact rfl); try decreasing_trivial) | ((with_reducible refine' ix_1 ?sd ?_); (case sd => exact rfl); try decreasing_trivial) | ((with_reducible refine' ix_2 ?sd ?_); (case sd => exact rfl); try decreasing_trivial) | ((with_reducible refine' ix_3 ?sd ?_); (case sd => exact rfl); try decreasing_trivial) | ((with_reducible refine' ix_4 ?sd ?_); (case sd => exact rfl); try decreasing_trivial) | ((with_reducible refine' ix_5 ?sd ?_); (case sd => exact rfl); try decreasing_trivial) | ((with_reducible refine' ix_m1 ?sd ?_); (case sd => exact rfl); try decreasing_trivial) | ((with_reducible refine' ix_m2 ?sd ?_); (case sd => exact rfl); try decreasing_trivial) | (((rw [rqa])); try decreasing_trivial) | (((rw [rqb])); try decreasing_trivial) | (((rw [ewn])); try decreasing_trivial) | (((with_reducible refine' Exists.intro _ (And.intro rea ?_))); try decreasing_trivial) | (((with_reducible refine ix_am1 ?_)); try decreasing_trivial) | (((with_reducible refine ix_am2 ?_)); try decreasing_trivial) | ((((with_reducible refine ix_map ?s1 ?s2 (fun x mx me => ?_)); (case s1 => (first | omega | (simp only [List.length_map]; omega) | (simp only [List.length_map]; exact Int.emod_nonneg _ (by omega)) | (simp only [List.length_map]; exact Int.emod_lt_of_pos _ (by omega)))); (case s2 => (first | omega | (simp only [List.length_map]; omega) | (simp only [List.length_map]; exact Int.emod_nonneg _ (by omega)) | (simp only [List.length_map]; exact Int.emod_lt_of_pos _ (by omega)))))); try decreasing_trivial) | ((((with_reducible refine ix_lett ?s1 ?s2 ?_); (case s1 => omega); (case s2 => omega))); try decreasing_trivial) | ((((with_reducible refine ix_sgnM (m := 6) ?s0 ?s1 ?s2 (fun v mv => ?_)); (case s0 => decide +kernel); (case s1 => omega); (case s2 => omega))); try decreasing_trivial) | ((((with_reducible refine ix_sgnM (m := 7) ?s0 ?s1 ?s2 (fun v mv => ?_)); (case s0 => decide +kernel); (case s1 => omega); (case s2 => omega))); try decreasing_trivial) | ((((with_reducible refine ix_i2 ?s1 ?s2 (fun v vi => ?_)); (case s1 => omega); (case s2 => omega))); try decreasing_trivial) | ((((with_reducible refine ix_i3 ?s1 ?s2 (fun v vi => ?_)); (case s1 => omega); (case s2 => omega))); try decreasing_trivial) | ((((with_reducible refine ix_i6 ?s1 ?s2 (fun v vi => ?_)); (case s1 => omega); (case s2 => omega))); try decreasing_trivial) | ((((with_reducible refine ix_cons ?s1 (fun ei => ?_) (fun ei => ?_)); (case s1 => omega))); try decreasing_trivial) | ((((with_reducible refine ix_nil ?s1); (case s1 => omega))); try decreasing_trivial) | ((((with_reducible refine ix_let2 ?s1 ?s2 ?_); (case s1 => omega); (case s2 => omega))); try decreasing_trivial) | ((with_reducible refine' Exists.intro _ (And.intro ?sd ?_)); (case sd => exact rfl); try decreasing_trivial) | ((with_reducible refine iteB (fun c => ?_) (fun c => ?_)) <;> (try simp only [decide_eq_true_eq, decide_eq_false_iff_not, Bool.not_eq_true', Bool.not_eq_false', id, List.length_map, eqv_int, eqv_str, List.any_cons, List.any_nil, Bool.or_eq_true, Bool.or_false, Bool.or_eq_false_iff] at c) <;> (try exact absurd c (by assumption)) <;> (try exact absurd (by assumption) c) <;> (try exact absurd c (by decide +kernel)) <;> (try exact absurd (c.symm.trans (show _ = true by assumption)) (by decide)) <;> (try exact absurd (c.symm.trans (show _ = false by assumption)) (by decide)) <;> (try decreasing_trivial)) | ((with_reducible refine' Exists.intro _ (And.intro kit_bb ?_)); try decreasing_trivial) | ((with_reducible refine' Exists.intro _ (And.intro kit_ll ?_)); try decreasing_trivial) | ((with_reducible refine' Exists.intro _ (And.intro kit_tt ?_)); try decreasing_trivial) | ((with_reducible refine' Exists.intro _ (And.intro kit_dd ?_)); try decreasing_trivial) | ((with_reducible refine' Exists.intro _ (And.intro kit_ii ?_)); try decreasing_trivial) | ((with_reducible refine' Exists.intro _ (And.intro kit_ss ?_)); try decreasing_trivial) | ((with_reducible refine' Exists.intro _ (And.intro kit_ib ?_)); try decreasing_trivial) | ((with_reducible refine' Exists.intro _ (And.intro kit_bi ?_)); try decreasing_trivial) | ((with_reducible refine dv_hit ?sd ?_); (case sd => first | exact rfl | decide +kernel); try decreasing_trivial) | ((with_reducible refine dv_miss ?sd ?_); (case sd => decide +kernel); try decreasing_trivial) | ((first | rw [inx_set] | rw [inx_tell] | rw [inx_ifr] | rw [inx_whl] | rw [inx_tms]); try decreasing_trivial) | ((first | rw [cut_lo1] | rw [cut_hi1] | rw [cut_lo2] | rw [cut_hi2] | rw [cut_lo3] | rw [cut_hi3] | rw [cut_lo4] | rw [cut_hi4] | rw [cut_lo5] | rw [cut_hi5] | rw [cut_lo6] | rw [cut_hi6]); try decreasing_trivial))))
section
variable {P : Program} {w : World} {K : PySem.W.Frag} {mg : Str → Option Value} {base : Heap} {fa : Addr} {fd : FuncData}
abbrev s_law_term_text : Stmt := top 27
abbrev n_law_term_text : List Str := ["_law_term"]
theorem sc_law_term_text : FnScope n_law_term_text ["_law_term"] (defScope s_law_term_text) := ⟨rfl, rfl, rfl, by decide +kernel, rfl, by decide +kernel, by decide +kernel⟩
theorem ok_law_term_text {n : Nat} (F : Fun K "_law_term_text" "_law_term_text" s_law_term_text fa fd) (c_law_term_text : DefOk P w K mg base "_law_term_text" n ["_law_term"] [] (sp_law_term_text n)) (z_int : mg "int" = none) (z_str : mg "str" = none) :
    FnV P w K mg base (n + 1) fa fd ["_law_term"] [] (sp_law_term_text (n + 1)) := by
  refine FnV.of F sc_law_term_text (fun os k kx h => by obtain ⟨t, rfl, _⟩ := h; rfl) fun cdv A outer s H E hg hr => ⟨_, _, (js_cons (js_if (jt_cmp (op_eqX hr.units) ok_eq (nomark _) (je_ix (ix_X (u1 hr)) ok_ixX (je_var 0) je_int (fun _ _ => rfl)) je_str) (js_one (js_ret (je_bin op_addX ok_add (je_bin op_addX ok_add (je_bin op_addX ok_add (je_bin op_addX ok_add (je_bin op_addX ok_add (je_bin op_addX ok_add je_str (je_ix (ix_X (u1 hr)) ok_ixX (je_var 0) je_int (fun _ _ => rfl))) je_str) (je_call [] c_law_term_text hg hr (by first | decide | exact Nat.le_refl _ | omega) (takes_of rfl rfl rfl rfl) rfl (ja_cons (je_ix (ix_X (u1 hr)) ok_ixX (je_var 0) je_int (fun _ _ => rfl)) ja_nil))) je_str) (je_call [] c_law_term_text hg hr (by first | decide | exact Nat.le_refl _ | omega) (takes_of rfl rfl rfl rfl) rfl (ja_cons (je_ix (ix_X (u1 hr)) ok_ixX (je_var 0) je_int (fun _ _ => rfl)) ja_nil))) je_str))) js_nil)
      (js_one (js_ret (je_bin op_addX ok_add (je_ix (ix_X (u1 hr)) ok_ixX (je_lst (ja_cons je_str (ja_cons je_str ja_nil))) (je_Ty call_intX ok_intX rfl z_int (by decide +kernel) (ja_cons (je_cmp (op_eqX hr.units) ok_eq (nomark _) (je_ix (ix_X (u1 hr)) ok_ixX (je_var 0) je_int (fun _ _ => rfl)) je_str) ja_nil)) (fun _ _ => rfl)) (je_Ty call_strX ok_strX rfl z_str (by decide +kernel) (ja_cons (je_ix (ix_X (u1 hr)) ok_ixX (je_var 0) je_int (fun _ _ => rfl)) ja_nil)))))), fun os kk kx h => ?_⟩
  obtain ⟨t, rfl, hd, ok, hp, k⟩ := h
  have tl := txt_len (fun _ h => h) ok
  have e0 : (Str.ofString "").length = 0 := by decide +kernel
  have e2 : (Str.ofString "in").length = 2 := by decide +kernel
  have f0 : ∀ x : Str, ("" : Str) ++ x = x := fun x => str_ext (by rw [app_list]; rfl)
  cases t with
  | num i =>
    obtain ⟨i0, i1⟩ := ok
    have lg : i.natAbs.log2 < 1920 := log_ok (by omega) (by omega)
    have tl2 : ("" : Str).length + (Str.ofString (toString i)).length ≤ sizeLine := small (by rw [e0, Nat.zero_add]; exact Nat.le_trans tl (by show 12 * 1 ≤ _; decide))
    have ewn : (if decide (("num" : Str) = "in") = true then (1 : Int) else 0) = 0 := by decide +kernel
    try dsimp only [n_law_term_text, List.length_cons, List.length_nil, Nat.reduceAdd, Nat.reduceSub]
    try decreasing_trivial
    trivial
    all_goals first | (rw [f0]; exact k) | trace_state
  | cel s =>
    have tl2 : ("" : Str).length + s.length ≤ sizeLine := small (by rw [e0, Nat.zero_add]; exact Nat.le_trans tl (by show 12 * 1 ≤ _; decide))
    have ewn : (if decide (("cell" : Str) = "in") = true then (1 : Int) else 0) = 0 := by decide +kernel
    try dsimp only [n_law_term_text, List.length_cons, List.length_nil, Nat.reduceAdd, Nat.reduceSub]
    try decreasing_trivial
    trivial
    all_goals first | (rw [f0]; exact k) | trace_state
  | inn i =>
    obtain ⟨i0, i1⟩ := ok
    have lg : i.natAbs.log2 < 1920 := log_ok (by omega) (by omega)
    have tl2 : ("in" : Str).length + (Str.ofString (toString i)).length ≤ sizeLine := small (by rw [← app_len]; exact Nat.le_trans tl (by show 12 * 1 ≤ _; decide))
    have ewn : (if decide (("in" : Str) = "in") = true then (1 : Int) else 0) = 1 := by decide +kernel
    try dsimp only [n_law_term_text, List.length_cons, List.length_nil, Nat.reduceAdd, Nat.reduceSub]
    try decreasing_trivial
    trivial
    all_goals first | exact k | trace_state
  | op c a b =>
    obtain ⟨oc, oa, ob⟩ := ok
    have d1 : a.down < n := by simp only [Tr.down] at hd; omega
    have d2 : b.down < n := by simp only [Tr.down] at hd; omega
    have pp : a.parts.length + b.parts.length + 1 ≤ 100 := by simpa [Tr.parts] using hp
    have ta := txt_len (fun _ h => h) oa
    have tb := txt_len (fun _ h => h) ob
    have sl : (sg c).length = 1 := rfl
    have z1 : (Str.ofString "(").length = 1 := by decide +kernel
    have z2 : (Str.ofString " ").length = 1 := by decide +kernel
    have z3 : (Str.ofString ")").length = 1 := by decide +kernel
    have jl := join3_len (sg c) a.txt b.txt
    have k : kk (R.p (PyData.str ("(" ++ sg c ++ " " ++ a.txt ++ " " ++ b.txt ++ ")"))) _ := k
    have a1 : ("(" ++ sg c : Str).length = 2 := by rw [app_len, z1, sl]
    have a2 : ("(" ++ sg c ++ " " : Str).length = 3 := by rw [app_len, a1, z2]
    have a3 : ("(" ++ sg c ++ " " ++ a.txt : Str).length = 3 + a.txt.length := by rw [app_len, a2]
    have a4 : ("(" ++ sg c ++ " " ++ a.txt ++ " " : Str).length = 4 + a.txt.length := by rw [app_len, a3, z2]; omega
    have a5 : ("(" ++ sg c ++ " " ++ a.txt ++ " " ++ b.txt : Str).length = 4 + a.txt.length + b.txt.length := by rw [app_len, a4]
    try dsimp only [n_law_term_text, List.length_cons, List.length_nil, Nat.reduceAdd, Nat.reduceSub]
    try decreasing_trivial
    trivial
    all_goals first | exact k | trace_state
end
end KR

namespace KR
open PySem PySem.Spec PyProof.Rows L2 VL
set_option hygiene false
local macro_rules | `(tactic| decreasing_trivial) => `(tactic| dsimp only [x_aNil, x_aCons, x_rOp, x_rOu, x_rVar, x_rC, x_rT, x_rTand, x_rTor, x_rTnot, x_rAnd, x_rOr, x_rNot, x_rIf, x_rOt, x_rNewD, x_rSlLU, x_rSlL, x_rSlU, x_rChain, x_sNil, x_sSeq, x_sBreak, x_sCont, x_sExpr, x_sRet, x_sRetN, x_sIf, x_sSet, x_rMv, x_rFz, x_rMt, x_rMr, x_sSetL, x_rCall, x_bName, x_bTup, x_rSeq, x_rRange1, x_rRange2, x_sFor, x_rLc, x_rYes, x_rIsi1, x_rM0, x_rM1, x_aLate, x_sPar, x_sAug, x_tt, x_ff, x_bNames0, x_bNames1, x_lcT, x_wipe0, x_wipe1, x_AN_of_nx, x_AN_of_rt, x_AN_of_ex, x_seq_nx, x_seq_rt, x_seq_bk, x_seq_ct, x_seq_ex, x_loop_nx, x_loop_rt, x_loop_bk, x_loop_ct, x_loop_ex, x_grd_p, x_grd_ow, x_grd_sl, x_grd_vw, x_vwO_p, x_vwO_ls, x_vwO_lo, x_vwO_dc, x_vwO_dco, x_vwO_ins, x_vwO_fl, x_datL0, x_datL1, x_dat_p, x_dat_sl, x_dat_vw, x_dat_ow, x_sh_p, x_sh_ls, x_sh_dc, x_datu_p, x_datu_ls, x_datu_dc, x_datu_fl, x_datu_vw, x_datu_ow, x_takes0, x_takes_p, x_takes_ow, x_map_some, x_frz_p, x_frz_ls, x_frz_dc, x_take1_p, x_take1_ow, x_own1_p, x_own1_ow, x_slots_p, x_slots_sl, x_slots_ow, x_vwp_sl, x_vwp_vw, x_toO_p, x_toO_sl, x_toO_ow, x_wb_sl, x_wb_p, x_wb_ow, x_wb0, x_wb00, x_seqM_list, x_seqM_tuple, x_seqM_str, x_isI, x_all, x_any, x_join_l, x_join_t, x_add_i, x_add_s, x_add_l, x_add_t, x_sub, x_mod, x_div, x_pow, x_mul_i, x_mul_s, x_neg, x_cmp, x_eq, x_eq_s, x_eq_i, x_eq_b, x_eq_n, x_eq_ns, x_eq_sn, x_eq_is, x_eq_si, x_eq_ll, x_eq_t2, x_isN_n, x_isN_i, x_isN_s, x_isN_l, x_isN_t, x_in_s, x_in_sl, x_in_il, x_in_tl, x_in_st, x_in_it, x_len_s, x_len_l, x_len_t, x_ix_l, x_ix_t, x_ix_s, x_tup, x_lst, x_sl_s, x_sl_l, x_sl_t, x_append, x_extend, x_max_i, x_max_l, x_min, x_int_i, x_int_b, x_listOf_l, x_listOf_t, x_tupOf_l, x_tupOf_t, x_repr_i, x_repr_l, x_repr_t, x_map0, x_map1, x_app0, x_app1, x_set0, x_setS, x_get0, x_getS, x_Tr_num, x_Tr_cel, x_Tr_inn, x_Tr_op, x_forW0, x_forW1, x_lcW0, x_lcW1, x_drop1, x_drop0, x_dropn, x_take1s, x_take0, x_taken, x_ty_l, x_ty_t, x_ty_i, x_ty_b, x_ty_s, x_ty_d, x_rDisp, x_rDispN, x_sSetD, x_rGet2, x_rEnum, x_ixX_ds, x_ixX_di, x_ixX_l, x_ixX_t, x_ixX_s, x_inX_ds, x_inX_di, x_inX_s, x_inX_sl, x_inX_il, x_inX_tl, x_inX_st, x_inX_it, x_lenX_d, x_lenX_s, x_lenX_l, x_lenX_t, x_mulY_t, x_mulY_i, x_mulY_s, x_kD_i, x_kD_s, x_kP_i, x_kP_s, x_zip1, x_zip0, x_mClear, x_mReverse, x_enum0, x_scene_map, x_scene_len, x_Row_set, x_Row_tell, x_Row_ifr, x_Row_whl, x_Row_tms, x_bod_set, x_bod_tell, x_bod_ifr, x_bod_whl, x_bod_tms, x_enum1, x_enum2, x_wayO_some, x_wayO_none, x_i01, x_i11, x_sRaise1, x_sRaise0, x_sTry, x_rIs, x_rFld, x_rIsTu, x_tr_nx, x_tr_rt, x_tr_bk, x_tr_ct, x_tr_ex, x_su_nx, x_su_rt, x_su_bk, x_su_ct, x_isB, x_rp, x_held0, x_heldS, x_sUnp, x_sUnl, x_rRm, x_cnt, x_idx, x_sidx, x_tyOk_l, x_tyOk_s, x_tyOk_d, x_nc0, x_nc1, x_nc2, x_nc3, x_nc4, x_nc5, x_nc6, x_nc7, x_nc8, x_nc9, x_rRev, x_rZip, x_rsl0, x_rsl1, x_intX_s, x_intX_i, x_intX_b, x_strX_s, x_strX_i, List.map_nil, List.map_cons, List.cons_append, List.nil_append, List.append_nil, List.replicate_succ, List.replicate_zero, List.length_cons, List.length_nil, List.contains, List.elem, Nat.reduceBEq, Nat.reduceAdd, Nat.reduceSub, List.all_nil, List.all_cons, Int.reduceNeg, Int.reduceSub, Int.reduceAdd, id])
local macro_rules | `(tactic| trivial) => `(tactic| repeat (any_goals (first | ((with_reducible refine And.intro ?sd ?_); (case sd => (first | exact rfl | omega | assumption | (simp only [List.length_map, List.length_append, List.length_cons, List.length_nil, List.length_set, List.length_take, List.length_drop, List.length_range, List.length_reverse]; omega) | exact small (by omega) | exact cut_le (by omega) | exact sl_add (by first | omega | decide +kernel | exact cut_le (by omega) | exact up_le (by omega) | exact up_le (cut_le (by omega)) | exact app_le (by exact up_le4 (cut_le (by omega))) (by exact cut_le (by omega)) | exact app_le (by decide) (by omega) | exact app_le (by first | omega | exact cut_le (by omega)) (by first | omega | exact cut_le (by omega))) (by first | omega | decide +kernel | exact cut_le (by omega) | exact up_le (by omega) | exact up_le (cut_le (by omega)) | exact app_le (by exact up_le4 (cut_le (by omega))) (by exact cut_le (by omega)) | exact app_le (by decide) (by omega) | exact app_le (by first | omega | exact cut_le (by omega)) (by first | omega | exact cut_le (by omega))) | exact ⟨by omega, by omega⟩ | exact Or.inr ⟨by decide, by decide⟩ | exact Or.inl ⟨by omega, by omega⟩ | exact Or.inl ⟨by decide, by decide⟩ | exact ⟨by decide, by decide, by decide⟩ | exact small (by simp only [List.length_map, List.length_append, List.length_cons, List.length_nil, List.length_set, List.length_take, List.length_drop, List.length_range, List.length_reverse]; omega) | exact log_ok (by omega) (by omega) | (split <;> omega) | exact small (by rw [rowsD_len]; have := RowsIn.rlen (by assumption); omega) | exact small (by simp only [List.length_append, List.length_cons, List.length_nil, rowsD_len]; omega) | exact Nat.lt_of_lt_of_le (by simp only [List.length_append, List.length_cons, List.length_nil, rowsD_len, List.length_map]; omega : _ < 100000) (by decide) | rfl | decide))) | ((with_reducible refine' Exists.intro _ (And.intro put_scene ?_)); try decreasing_trivial) | ((with_reducible show sp_law_take _ _ _); (first | refine ⟨_, _, _, rfl, by decide, by decide, fun r a b r0 r1 => ?_⟩ | refine ⟨_, _, _, rfl, by omega, by omega, fun r a b r0 r1 => ?_⟩ | (refine ⟨_, _, _, rfl, by simp only [List.length_map]; omega, by simp only [List.length_map]; omega, fun r a b r0 r1 => ?_⟩; simp only [List.length_map] at r1)); try decreasing_trivial) | ((with_reducible show sp_law_feed _ _ _); (refine ⟨_, _, rfl, by omega, by omega, by omega, fun fa fb => ?_⟩); try decreasing_trivial) | ((with_reducible show sp_parts _ _ _ _); (refine ⟨_, rfl, by assumption, by assumption, ?_⟩); try decreasing_trivial) | ((with_reducible show sp_deep _ _ _ _); (refine ⟨_, rfl, by assumption, ?_⟩); try decreasing_trivial) | ((with_reducible show sp_cells _ _ _ _); (refine ⟨_, rfl, by assumption, by assumption, ?_⟩); try decreasing_trivial) | ((with_reducible show sp_law_number _ _ _); (refine ⟨_, _, rfl, fun nv a b n0 n1 => ?_⟩); try decreasing_trivial) | ((with_reducible show sp_law_names _ _ _); (refine ⟨_, _, _, rfl, by omega, by omega, fun ws a b wl wn => ?_⟩); try decreasing_trivial) | ((with_reducible show sp_law_scene _ _ _); (refine ⟨_, _, rfl, fun cs ms a b sc => ?_⟩); try decreasing_trivial) | ((with_reducible show sp_law_mark _ _ _); (refine ⟨_, _, _, rfl, by omega, by omega, by omega, fun m me => ?_⟩); try decreasing_trivial) | ((with_reducible show sp_law_term _ _ _ _); (refine ⟨_, _, _, _, _, _, _, rfl, by omega, by omega, by omega, by omega, by omega, by omega, fun t a b t1 t2 t3 => ?_⟩); try decreasing_trivial) | ((with_reducible show sp_law_row _ _ _ _); (refine ⟨_, _, _, _, _, _, _, rfl, by assumption, by omega, by omega, by omega, by omega, by omega, fun rw a b u l l0 ul ri uu => ?_⟩); try decreasing_trivial) | ((with_reducible show sp_law_body _ _ _ _); (refine ⟨_, _, _, _, _, _, _, rfl, by assumption, by omega, by omega, by omega, by omega, by omega, fun bd a b u l l0 ul ri uu une => ?_⟩); try decreasing_trivial) | ((with_reducible show sp_law_program _ _ _); (refine ⟨_, _, _, _, _, rfl, by assumption, by omega, by omega, fun pr a b u u0 u1 ri pne => ?_⟩); try decreasing_trivial) | ((with_reducible show sp_bodies_in _ _ _); (first | refine ⟨.set _ _ _, rfl, ?_⟩ | refine ⟨.tell _ _, rfl, ?_⟩ | refine ⟨.ifr _ _ _ _, rfl, ?_⟩ | (refine ⟨.whl _ _ _, by exact rfl, ?_⟩) | refine ⟨.tms _ _ _, rfl, ?_⟩ | refine ⟨_, rfl, ?_⟩); try decreasing_trivial) | ((with_reducible show sp_law_bodies _ _ _); (first | refine ⟨.set _ _ _, rfl, ?_⟩ | refine ⟨.tell _ _, rfl, ?_⟩ | refine ⟨.ifr _ _ _ _, rfl, ?_⟩ | (refine ⟨.whl _ _ _, by exact rfl, ?_⟩) | refine ⟨.tms _ _ _, rfl, ?_⟩ | refine ⟨_, rfl, ?_⟩); try decreasing_trivial) | ((with_reducible show sp_rows _ _ _ _); (refine ⟨_, rfl, by omega, by omega, ?_⟩); try decreasing_trivial) | ((with_reducible show sp_marks _ _ _ _); (refine ⟨_, rfl, by omega, by omega, ?_⟩); try decreasing_trivial) | ((with_reducible show sp_way_to _ _ _ _); (refine ⟨_, _, rfl, by omega, by omega, ?_⟩; (try simp only [ha]); (try simp only [hb])); try decreasing_trivial) | ((with_reducible show sp_spot _ _ _ _); (refine ⟨_, _, _, rfl, by assumption, by omega, by omega, ?_⟩; (try rw [esp])); try decreasing_trivial) | ((with_reducible show sp_loops _ _ _ _); (refine ⟨_, _, _, rfl, by assumption, by omega, by omega, ?_⟩); try decreasing_trivial) | ((with_reducible show sp_need_text er _ _ _); (refine ⟨_, _, rfl, fun q => ?_, fun q => ?_⟩); try decreasing_trivial) | ((with_reducible show sp_is_name _ _ _); (refine ⟨_, rfl, by omega, ?_⟩); try decreasing_trivial) | ((with_reducible show sp_is_number _ _ _); (refine ⟨_, rfl, by omega, ?_⟩); try decreasing_trivial) | ((with_reducible show sp_leaf_of er _ _ _); (refine ⟨_, _, _, rfl, by first | omega | (simp only [mkS_len]; omega), by first | exact mkS_l _ | rfl, fun t ht => ?_, fun ht => ?_⟩); try decreasing_trivial) | ((with_reducible show sp_term_at er _ _ _ _); (refine ⟨_, _, _, _, rfl, by omega, by omega, by omega, by first | assumption | rfl, by omega, fun t l ht => ?_, fun ht => ?_⟩); try decreasing_trivial) | ((with_reducible show sp_whole_term er _ _ _); (refine ⟨_, _, rfl, by omega, by omega, fun t ht => ?_, fun ht => ?_⟩); try decreasing_trivial) | ((with_reducible show sp_read_term er _ _ _); (refine ⟨_, rfl, by omega, by omega, fun t ht => ?_, fun ht => ?_⟩); try decreasing_trivial) | ((with_reducible show sp_term_text _ _ _ _); (refine ⟨_, rfl, by first | assumption | omega, by assumption, by omega, ?_⟩); try decreasing_trivial) | ((with_reducible show sp_law_term_text _ _ _ _); (refine ⟨_, rfl, by first | assumption | omega, by assumption, by omega, ?_⟩); try decreasing_trivial) | ((with_reducible show sp_law_kept _ _ _); (refine ⟨rfl, ?_⟩); try decreasing_trivial) | ((with_reducible show sp_law_word _ _ _); (refine ⟨_, _, rfl, fun wd a b wx => ?_⟩); try decreasing_trivial) | ((with_reducible show sp_law_any_term _ _ _ _); (first | refine ⟨_, _, _, _, _, rfl, by assumption, by assumption, by omega, by omega, by omega, by omega, fun t a b t1 t2 t3 => ?_⟩ | refine ⟨_, _, [_, _], _, _, rfl, by decide, by decide, by omega, by omega, by omega, by omega, fun t a b t1 t2 t3 => ?_⟩ | refine ⟨_, _, _, _, _, rfl, by assumption, by assumption, by omega, by omega, by omega, by omega, fun t a b t1 t2 t3 => ?_⟩ | refine ⟨_, _, _, _, _, rfl, by omega, by omega, by omega, by omega, by omega, by omega, fun t a b t1 t2 t3 => ?_⟩); try decreasing_trivial) | ((with_reducible show sp_law_alike _ _ _ _); (refine ⟨_, _, rfl, by assumption, by omega, ?_⟩); try decreasing_trivial) | ((with_reducible refine px_0 ?sd ?_); (case sd => (first | omega | (simp only [List.length_map, List.length_append, List.length_cons, List.length_nil, List.length_set, List.length_take, List.length_drop, List.length_range, List.length_reverse]; omega))); try decreasing_trivial) | ((with_reducible refine px_1 ?sd ?_); (case sd => (first | omega | (simp only [List.length_map, List.length_append, List.length_cons, List.length_nil, List.length_set, List.length_take, List.length_drop, List.length_range, List.length_reverse]; omega))); try decreasing_trivial) | ((with_reducible refine px_2 ?sd ?_); (case sd => (first | omega | (simp only [List.length_map, List.length_append, List.length_cons, List.length_nil, List.length_set, List.length_take, List.length_drop, List.length_range, List.length_reverse]; omega))); try decreasing_trivial) | ((with_reducible refine px_3 ?sd ?_); (case sd => (first | omega | (simp only [List.length_map, List.length_append, List.length_cons, List.length_nil, List.length_set, List.length_take, List.length_drop, List.length_range, List.length_reverse]; omega))); try decreasing_trivial) | ((with_reducible refine px_m1 ?sd ?_); (case sd => (first | omega | (simp only [List.length_map, List.length_append, List.length_cons, List.length_nil, List.length_set, List.length_take, List.length_drop, List.length_range, List.length_reverse]; omega))); try decreasing_trivial) | ((with_reducible refine px_i ?s1 ?s2 ?_); (case s1 => (first | omega | (simp only [List.length_map, List.length_append, List.length_cons, List.length_nil, List.length_set, List.length_take, List.length_drop, List.length_range, List.length_reverse]; omega))); (case s2 => (first | omega | (simp only [List.length_map, List.length_append, List.length_cons, List.length_nil, List.length_set, List.length_take, List.length_drop, List.length_range, List.length_reverse]; omega))); try decreasing_trivial) | ((with_reducible refine' ix_0 ?sd ?_); (case sd => exact rfl); try decreasing_trivial) | ((with_reducible refine' ix_1 ?sd ?_); (case sd => exact rfl); try decreasing_trivial) | ((with_reducible refine' ix_2 ?sd ?_); (case sd => exact rfl); try decreasing_trivial) | ((with_reducible refine' ix_3 ?sd ?_); (case sd => exact rfl); try decreasing_trivial) | ((with_reducible refine' ix_4 ?sd ?_); (case sd => exact rfl); try decreasing_trivial) | ((with_reducible refine' ix_5 ?sd ?_); (case sd => exact rfl); try decreasing_trivial) | ((with_reducible refine' ix_m1 ?sd ?_); (case sd => exact rfl); try decreasing_trivial) | ((with_reducible refine' ix_m2 ?sd ?_); (case sd => exact rfl); try decreasing_trivial) | (((rw [rqa])); try decreasing_trivial) | (((rw [rqb])); try decreasing_trivial) | (((rw [ewn])); try decreasing_trivial) | (((with_reducible refine' Exists.intro _ (And.intro rea ?_))); try decreasing_trivial) | (((with_reducible refine ix_am1 ?_)); try decreasing_trivial) | (((with_reducible refine ix_am2 ?_)); try decreasing_trivial) | ((((with_reducible refine ix_map ?s1 ?s2 (fun x mx me => ?_)); (case s1 => (first | omega | (simp only [List.length_map]; omega) | (simp only [List.length_map]; exact Int.emod_nonneg _ (by omega)) | (simp only [List.length_map]; exact Int.emod_lt_of_pos _ (by omega)))); (case s2 => (first | omega | (simp only [List.length_map]; omega) | (simp only [List.length_map]; exact Int.emod_nonneg _ (by omega)) | (simp only [List.length_map]; exact Int.emod_lt_of_pos _ (by omega)))))); try decreasing_trivial) | ((((with_reducible refine ix_lett ?s1 ?s2 ?_); (case s1 => omega); (case s2 => omega))); try decreasing_trivial) | ((((with_reducible refine ix_sgnM (m := 6) ?s0 ?s1 ?s2 (fun v mv => ?_)); (case s0 => decide +kernel); (case s1 => omega); (case s2 => omega))); try decreasing_trivial) | ((((with_reducible refine ix_sgnM (m := 7) ?s0 ?s1 ?s2 (fun v mv => ?_)); (case s0 => decide +kernel); (case s1 => omega); (case s2 => omega))); try decreasing_trivial) | ((((with_reducible refine ix_i2 ?s1 ?s2 (fun v vi => ?_)); (case s1 => omega); (case s2 => omega))); try decreasing_trivial) | ((((with_reducible refine ix_i3 ?s1 ?s2 (fun v vi => ?_)); (case s1 => omega); (case s2 => omega))); try decreasing_trivial) | ((((with_reducible refine ix_i6 ?s1 ?s2 (fun v vi => ?_)); (case s1 => omega); (case s2 => omega))); try decreasing_trivial) | ((((with_reducible refine ix_cons ?s1 (fun ei => ?_) (fun ei => ?_)); (case s1 => omega))); try decreasing_trivial) | ((((with_reducible refine ix_nil ?s1); (case s1 => omega))); try decreasing_trivial) | ((((with_reducible refine ix_let2 ?s1 ?s2 ?_); (case s1 => omega); (case s2 => omega))); try decreasing_trivial) | ((with_reducible refine' Exists.intro _ (And.intro ?sd ?_)); (case sd => exact rfl); try decreasing_trivial) | ((with_reducible refine iteB (fun c => ?_) (fun c => ?_)) <;> (try simp only [decide_eq_true_eq, decide_eq_false_iff_not, Bool.not_eq_true', Bool.not_eq_false', id, List.length_map, eqv_int, eqv_str, List.any_cons, List.any_nil, Bool.or_eq_true, Bool.or_false, Bool.or_eq_false_iff] at c) <;> (try exact absurd c (by assumption)) <;> (try exact absurd (by assumption) c) <;> (try exact absurd c (by decide +kernel)) <;> (try exact absurd (c.symm.trans (show _ = true by assumption)) (by decide)) <;> (try exact absurd (c.symm.trans (show _ = false by assumption)) (by decide)) <;> (try decreasing_trivial)) | ((with_reducible refine' Exists.intro _ (And.intro kit_bb ?_)); try decreasing_trivial) | ((with_reducible refine' Exists.intro _ (And.intro kit_ll ?_)); try decreasing_trivial) | ((with_reducible refine' Exists.intro _ (And.intro kit_tt ?_)); try decreasing_trivial) | ((with_reducible refine' Exists.intro _ (And.intro kit_dd ?_)); try decreasing_trivial) | ((with_reducible refine' Exists.intro _ (And.intro kit_ii ?_)); try decreasing_trivial) | ((with_reducible refine' Exists.intro _ (And.intro kit_ss ?_)); try decreasing_trivial) | ((with_reducible refine' Exists.intro _ (And.intro kit_ib ?_)); try decreasing_trivial) | ((with_reducible refine' Exists.intro _ (And.intro kit_bi ?_)); try decreasing_trivial) | ((with_reducible refine dv_hit ?sd ?_); (case sd => first | exact rfl | decide +kernel); try decreasing_trivial) | ((with_reducible refine dv_miss ?sd ?_); (case sd => decide +kernel); try decreasing_trivial) | ((first | rw [inx_set] | rw [inx_tell] | rw [inx_ifr] | rw [inx_whl] | rw [inx_tms]); try decreasing_trivial) | ((first | rw [cut_lo1] | rw [cut_hi1] | rw [cut_lo2] | rw [cut_hi2] | rw [cut_lo3] | rw [cut_hi3] | rw [cut_lo4] | rw [cut_hi4] | rw [cut_lo5] | rw [cut_hi5] | rw [cut_lo6] | rw [cut_hi6]); try decreasing_trivial))))
section
variable {P : Program} {w : World} {K : PySem.W.Frag} {mg : Str → Option Value} {base : Heap} {fa : Addr} {fd : FuncData}
abbrev s_law_kept : Stmt := top 24
abbrev n_law_kept : List Str := []
theorem sc_law_kept : FnScope n_law_kept [] (defScope s_law_kept) := ⟨rfl, rfl, rfl, by decide +kernel, rfl, by decide +kernel, by decide +kernel⟩
theorem ok_law_kept (F : Fun K "_law_kept" "_law_kept" s_law_kept fa fd)  :
    FnV P w K mg base 1 fa fd [] [] sp_law_kept := by
  refine FnV.of F sc_law_kept (fun os k kx h => by obtain ⟨rfl, _⟩ := h; rfl) fun cdv A outer s H E hg hr => ⟨_, _, (js_one (js_ret (je_lst (ja_cons je_str (ja_cons je_str (ja_cons je_str (ja_cons je_str (ja_cons je_str (ja_cons je_str (ja_cons je_str (ja_cons je_str ja_nil))))))))))), fun os kk kx h => ?_⟩
  obtain ⟨rfl, k⟩ := h
  exact (⟨by decide, k⟩ : 8 ≤ sizeLine ∧ kk (R.ow (O.ls (List.map PyData.str keptL))) [])
end
end KR

namespace KR
open PySem PySem.Spec PyProof.Rows L2 VL
set_option hygiene false
local macro_rules | `(tactic| decreasing_trivial) => `(tactic| dsimp only [x_aNil, x_aCons, x_rOp, x_rOu, x_rVar, x_rC, x_rT, x_rTand, x_rTor, x_rTnot, x_rAnd, x_rOr, x_rNot, x_rIf, x_rOt, x_rNewD, x_rSlLU, x_rSlL, x_rSlU, x_rChain, x_sNil, x_sSeq, x_sBreak, x_sCont, x_sExpr, x_sRet, x_sRetN, x_sIf, x_sSet, x_rMv, x_rFz, x_rMt, x_rMr, x_sSetL, x_rCall, x_bName, x_bTup, x_rSeq, x_rRange1, x_rRange2, x_sFor, x_rLc, x_rYes, x_rIsi1, x_rM0, x_rM1, x_aLate, x_sPar, x_sAug, x_tt, x_ff, x_bNames0, x_bNames1, x_lcT, x_wipe0, x_wipe1, x_AN_of_nx, x_AN_of_rt, x_AN_of_ex, x_seq_nx, x_seq_rt, x_seq_bk, x_seq_ct, x_seq_ex, x_loop_nx, x_loop_rt, x_loop_bk, x_loop_ct, x_loop_ex, x_grd_p, x_grd_ow, x_grd_sl, x_grd_vw, x_vwO_p, x_vwO_ls, x_vwO_lo, x_vwO_dc, x_vwO_dco, x_vwO_ins, x_vwO_fl, x_datL0, x_datL1, x_dat_p, x_dat_sl, x_dat_vw, x_dat_ow, x_sh_p, x_sh_ls, x_sh_dc, x_datu_p, x_datu_ls, x_datu_dc, x_datu_fl, x_datu_vw, x_datu_ow, x_takes0, x_takes_p, x_takes_ow, x_map_some, x_frz_p, x_frz_ls, x_frz_dc, x_take1_p, x_take1_ow, x_own1_p, x_own1_ow, x_slots_p, x_slots_sl, x_slots_ow, x_vwp_sl, x_vwp_vw, x_toO_p, x_toO_sl, x_toO_ow, x_wb_sl, x_wb_p, x_wb_ow, x_wb0, x_wb00, x_seqM_list, x_seqM_tuple, x_seqM_str, x_isI, x_all, x_any, x_join_l, x_join_t, x_add_i, x_add_s, x_add_l, x_add_t, x_sub, x_mod, x_div, x_pow, x_mul_i, x_mul_s, x_neg, x_cmp, x_eq, x_eq_s, x_eq_i, x_eq_b, x_eq_n, x_eq_ns, x_eq_sn, x_eq_is, x_eq_si, x_eq_ll, x_eq_t2, x_isN_n, x_isN_i, x_isN_s, x_isN_l, x_isN_t, x_in_s, x_in_sl, x_in_il, x_in_tl, x_in_st, x_in_it, x_len_s, x_len_l, x_len_t, x_ix_l, x_ix_t, x_ix_s, x_tup, x_lst, x_sl_s, x_sl_l, x_sl_t, x_append, x_extend, x_max_i, x_max_l, x_min, x_int_i, x_int_b, x_listOf_l, x_listOf_t, x_tupOf_l, x_tupOf_t, x_repr_i, x_repr_l, x_repr_t, x_map0, x_map1, x_app0, x_app1, x_set0, x_setS, x_get0, x_getS, x_Tr_num, x_Tr_cel, x_Tr_inn, x_Tr_op, x_forW0, x_forW1, x_lcW0, x_lcW1, x_drop1, x_drop0, x_dropn, x_take1s, x_take0, x_taken, x_ty_l, x_ty_t, x_ty_i, x_ty_b, x_ty_s, x_ty_d, x_rDisp, x_rDispN, x_sSetD, x_rGet2, x_rEnum, x_ixX_ds, x_ixX_di, x_ixX_l, x_ixX_t, x_ixX_s, x_inX_ds, x_inX_di, x_inX_s, x_inX_sl, x_inX_il, x_inX_tl, x_inX_st, x_inX_it, x_lenX_d, x_lenX_s, x_lenX_l, x_lenX_t, x_mulY_t, x_mulY_i, x_mulY_s, x_kD_i, x_kD_s, x_kP_i, x_kP_s, x_zip1, x_zip0, x_mClear, x_mReverse, x_enum0, x_scene_map, x_scene_len, x_Row_set, x_Row_tell, x_Row_ifr, x_Row_whl, x_Row_tms, x_bod_set, x_bod_tell, x_bod_ifr, x_bod_whl, x_bod_tms, x_enum1, x_enum2, x_wayO_some, x_wayO_none, x_i01, x_i11, x_sRaise1, x_sRaise0, x_sTry, x_rIs, x_rFld, x_rIsTu, x_tr_nx, x_tr_rt, x_tr_bk, x_tr_ct, x_tr_ex, x_su_nx, x_su_rt, x_su_bk, x_su_ct, x_isB, x_rp, x_held0, x_heldS, x_sUnp, x_sUnl, x_rRm, x_cnt, x_idx, x_sidx, x_tyOk_l, x_tyOk_s, x_tyOk_d, x_nc0, x_nc1, x_nc2, x_nc3, x_nc4, x_nc5, x_nc6, x_nc7, x_nc8, x_nc9, x_rRev, x_rZip, x_rsl0, x_rsl1, x_intX_s, x_intX_i, x_intX_b, x_strX_s, x_strX_i, List.map_nil, List.map_cons, List.cons_append, List.nil_append, List.append_nil, List.replicate_succ, List.replicate_zero, List.length_cons, List.length_nil, List.contains, List.elem, Nat.reduceBEq, Nat.reduceAdd, Nat.reduceSub, List.all_nil, List.all_cons, Int.reduceNeg, Int.reduceSub, Int.reduceAdd, id])
local macro_rules | `(tactic| trivial) => `(tactic| repeat (any_goals (first | ((with_reducible refine And.intro ?sd ?_); (case sd => (first | exact rfl | omega | assumption | (simp only [List.length_map, List.length_append, List.length_cons, List.length_nil, List.length_set, List.length_take, List.length_drop, List.length_range, List.length_reverse]; omega) | exact small (by omega) | exact cut_le (by omega) | exact sl_add (by first | omega | decide +kernel | exact cut_le (by omega) | exact up_le (by omega) | exact up_le (cut_le (by omega)) | exact app_le (by exact up_le4 (cut_le (by omega))) (by exact cut_le (by omega)) | exact app_le (by decide) (by omega) | exact app_le (by first | omega | exact cut_le (by omega)) (by first | omega | exact cut_le (by omega))) (by first | omega | decide +kernel | exact cut_le (by omega) | exact up_le (by omega) | exact up_le (cut_le (by omega)) | exact app_le (by exact up_le4 (cut_le (by omega))) (by exact cut_le (by omega)) | exact app_le (by decide) (by omega) | exact app_le (by first | omega | exact cut_le (by omega)) (by first | omega | exact cut_le (by omega))) | exact ⟨by omega, by omega⟩ | exact Or.inr ⟨by decide, by decide⟩ | exact Or.inl ⟨by omega, by omega⟩ | exact Or.inl ⟨by decide, by decide⟩ | exact ⟨by decide, by decide, by decide⟩ | exact small (by simp only [List.length_map, List.length_append, List.length_cons, List.length_nil, List.length_set, List.length_take, List.length_drop, List.length_range, List.length_reverse]; omega) | exact log_ok (by omega) (by omega) | (split <;> omega) | exact small (by rw [rowsD_len]; have := RowsIn.rlen (by assumption); omega) | exact small (by simp only [List.length_append, List.length_cons, List.length_nil, rowsD_len]; omega) | exact Nat.lt_of_lt_of_le (by simp only [List.length_append, List.length_cons, List.length_nil, rowsD_len, List.length_map]; omega : _ < 100000) (by decide) | rfl | decide))) | ((with_reducible refine' Exists.intro _ (And.intro put_scene ?_)); try decreasing_trivial) | ((with_reducible show sp_law_take _ _ _); (first | refine ⟨_, _, _, rfl, by decide, by decide, fun r a b r0 r1 => ?_⟩ | refine ⟨_, _, _, rfl, by omega, by omega, fun r a b r0 r1 => ?_⟩ | (refine ⟨_, _, _, rfl, by simp only [List.length_map]; omega, by simp only [List.length_map]; omega, fun r a b r0 r1 => ?_⟩; simp only [List.length_map] at r1)); try decreasing_trivial) | ((with_reducible show sp_law_feed _ _ _); (refine ⟨_, _, rfl, by omega, by omega, by omega, fun fa fb => ?_⟩); try decreasing_trivial) | ((with_reducible show sp_parts _ _ _ _); (refine ⟨_, rfl, by assumption, by assumption, ?_⟩); try decreasing_trivial) | ((with_reducible show sp_deep _ _ _ _); (refine ⟨_, rfl, by assumption, ?_⟩); try decreasing_trivial) | ((with_reducible show sp_cells _ _ _ _); (refine ⟨_, rfl, by assumption, by assumption, ?_⟩); try decreasing_trivial) | ((with_reducible show sp_law_number _ _ _); (refine ⟨_, _, rfl, fun nv a b n0 n1 => ?_⟩); try decreasing_trivial) | ((with_reducible show sp_law_names _ _ _); (refine ⟨_, _, _, rfl, by omega, by omega, fun ws a b wl wn => ?_⟩); try decreasing_trivial) | ((with_reducible show sp_law_scene _ _ _); (refine ⟨_, _, rfl, fun cs ms a b sc => ?_⟩); try decreasing_trivial) | ((with_reducible show sp_law_mark _ _ _); (refine ⟨_, _, _, rfl, by omega, by omega, by omega, fun m me => ?_⟩); try decreasing_trivial) | ((with_reducible show sp_law_term _ _ _ _); (refine ⟨_, _, _, _, _, _, _, rfl, by omega, by omega, by omega, by omega, by omega, by omega, fun t a b t1 t2 t3 => ?_⟩); try decreasing_trivial) | ((with_reducible show sp_law_row _ _ _ _); (refine ⟨_, _, _, _, _, _, _, rfl, by assumption, by omega, by omega, by omega, by omega, by omega, fun rw a b u l l0 ul ri uu => ?_⟩); try decreasing_trivial) | ((with_reducible show sp_law_body _ _ _ _); (refine ⟨_, _, _, _, _, _, _, rfl, by assumption, by omega, by omega, by omega, by omega, by omega, fun bd a b u l l0 ul ri uu une => ?_⟩); try decreasing_trivial) | ((with_reducible show sp_law_program _ _ _); (refine ⟨_, _, _, _, _, rfl, by assumption, by omega, by omega, fun pr a b u u0 u1 ri pne => ?_⟩); try decreasing_trivial) | ((with_reducible show sp_bodies_in _ _ _); (first | refine ⟨.set _ _ _, rfl, ?_⟩ | refine ⟨.tell _ _, rfl, ?_⟩ | refine ⟨.ifr _ _ _ _, rfl, ?_⟩ | (refine ⟨.whl _ _ _, by exact rfl, ?_⟩) | refine ⟨.tms _ _ _, rfl, ?_⟩ | refine ⟨_, rfl, ?_⟩); try decreasing_trivial) | ((with_reducible show sp_law_bodies _ _ _); (first | refine ⟨.set _ _ _, rfl, ?_⟩ | refine ⟨.tell _ _, rfl, ?_⟩ | refine ⟨.ifr _ _ _ _, rfl, ?_⟩ | (refine ⟨.whl _ _ _, by exact rfl, ?_⟩) | refine ⟨.tms _ _ _, rfl, ?_⟩ | refine ⟨_, rfl, ?_⟩); try decreasing_trivial) | ((with_reducible show sp_rows _ _ _ _); (refine ⟨_, rfl, by omega, by omega, ?_⟩); try decreasing_trivial) | ((with_reducible show sp_marks _ _ _ _); (refine ⟨_, rfl, by omega, by omega, ?_⟩); try decreasing_trivial) | ((with_reducible show sp_way_to _ _ _ _); (refine ⟨_, _, rfl, by omega, by omega, ?_⟩; (try simp only [ha]); (try simp only [hb])); try decreasing_trivial) | ((with_reducible show sp_spot _ _ _ _); (refine ⟨_, _, _, rfl, by assumption, by omega, by omega, ?_⟩; (try rw [esp])); try decreasing_trivial) | ((with_reducible show sp_loops _ _ _ _); (refine ⟨_, _, _, rfl, by assumption, by omega, by omega, ?_⟩); try decreasing_trivial) | ((with_reducible show sp_need_text er _ _ _); (refine ⟨_, _, rfl, fun q => ?_, fun q => ?_⟩); try decreasing_trivial) | ((with_reducible show sp_is_name _ _ _); (refine ⟨_, rfl, by omega, ?_⟩); try decreasing_trivial) | ((with_reducible show sp_is_number _ _ _); (refine ⟨_, rfl, by omega, ?_⟩); try decreasing_trivial) | ((with_reducible show sp_leaf_of er _ _ _); (refine ⟨_, _, _, rfl, by first | omega | (simp only [mkS_len]; omega), by first | exact mkS_l _ | rfl, fun t ht => ?_, fun ht => ?_⟩); try decreasing_trivial) | ((with_reducible show sp_term_at er _ _ _ _); (refine ⟨_, _, _, _, rfl, by omega, by omega, by omega, by first | assumption | rfl, by omega, fun t l ht => ?_, fun ht => ?_⟩); try decreasing_trivial) | ((with_reducible show sp_whole_term er _ _ _); (refine ⟨_, _, rfl, by omega, by omega, fun t ht => ?_, fun ht => ?_⟩); try decreasing_trivial) | ((with_reducible show sp_read_term er _ _ _); (refine ⟨_, rfl, by omega, by omega, fun t ht => ?_, fun ht => ?_⟩); try decreasing_trivial) | ((with_reducible show sp_term_text _ _ _ _); (refine ⟨_, rfl, by first | assumption | omega, by assumption, by omega, ?_⟩); try decreasing_trivial) | ((with_reducible show sp_law_term_text _ _ _ _); (refine ⟨_, rfl, by first | assumption | omega, by assumption, by omega, ?_⟩); try decreasing_trivial) | ((with_reducible show sp_law_kept _ _ _); (refine ⟨rfl, ?_⟩); try decreasing_trivial) | ((with_reducible show sp_law_word _ _ _); (refine ⟨_, _, rfl, fun wd a b wx => ?_⟩); try decreasing_trivial) | ((with_reducible show sp_law_any_term _ _ _ _); (first | refine ⟨_, _, _, _, _, rfl, by assumption, by assumption, by omega, by omega, by omega, by omega, fun t a b t1 t2 t3 => ?_⟩ | refine ⟨_, _, [_, _], _, _, rfl, by decide, by decide, by omega, by omega, by omega, by omega, fun t a b t1 t2 t3 => ?_⟩ | refine ⟨_, _, _, _, _, rfl, by assumption, by assumption, by omega, by omega, by omega, by omega, fun t a b t1 t2 t3 => ?_⟩ | refine ⟨_, _, _, _, _, rfl, by omega, by omega, by omega, by omega, by omega, by omega, fun t a b t1 t2 t3 => ?_⟩); try decreasing_trivial) | ((with_reducible show sp_law_alike _ _ _ _); (refine ⟨_, _, rfl, by assumption, by omega, ?_⟩); try decreasing_trivial) | ((with_reducible refine px_0 ?sd ?_); (case sd => (first | omega | (simp only [List.length_map, List.length_append, List.length_cons, List.length_nil, List.length_set, List.length_take, List.length_drop, List.length_range, List.length_reverse]; omega))); try decreasing_trivial) | ((with_reducible refine px_1 ?sd ?_); (case sd => (first | omega | (simp only [List.length_map, List.length_append, List.length_cons, List.length_nil, List.length_set, List.length_take, List.length_drop, List.length_range, List.length_reverse]; omega))); try decreasing_trivial) | ((with_reducible refine px_2 ?sd ?_); (case sd => (first | omega | (simp only [List.length_map, List.length_append, List.length_cons, List.length_nil, List.length_set, List.length_take, List.length_drop, List.length_range, List.length_reverse]; omega))); try decreasing_trivial) | ((with_reducible refine px_3 ?sd ?_); (case sd => (first | omega | (simp only [List.length_map, List.length_append, List.length_cons, List.length_nil, List.length_set, List.length_take, List.length_drop, List.length_range, List.length_reverse]; omega))); try decreasing_trivial) | ((with_reducible refine px_m1 ?sd ?_); (case sd => (first | omega | (simp only [List.length_map, List.length_append, List.length_cons, List.length_nil, List.length_set, List.length_take, List.length_drop, List.length_range, List.length_reverse]; omega))); try decreasing_trivial) | ((with_reducible refine px_i ?s1 ?s2 ?_); (case s1 => (first | omega | (simp only [List.length_map, List.length_append, List.length_cons, List.length_nil, List.length_set, List.length_take, List.length_drop, List.length_range, List.length_reverse]; omega))); (case s2 => (first | omega | (simp only [List.length_map, List.length_append, List.length_cons, List.length_nil, List.length_set, List.length_take, List.length_drop, List.length_range, List.length_reverse]; omega))); try decreasing_trivial) | ((with_reducible refine' ix_0 ?sd ?_); (case sd => exact rfl); try decreasing_trivial) | ((with_reducible refine' ix_1 ?sd ?_); (case sd => exact rfl); try decreasing_trivial) | ((with_reducible refine' ix_2 ?sd ?_); (case sd => exact rfl); try decreasing_trivial) | ((with_reducible refine' ix_3 ?sd ?_); (case sd => exact rfl); try decreasing_trivial) | ((with_reducible refine' ix_4 ?sd ?_); (case sd => exact rfl); try decreasing_trivial) | ((with_reducible refine' ix_5 ?sd ?_); (case sd => exact rfl); try decreasing_trivial) | ((with_reducible refine' ix_m1 ?sd ?_); (case sd => exact rfl); try decreasing_trivial) | ((with_reducible refine' ix_m2 ?sd ?_); (case sd => exact rfl); try decreasing_trivial) | (((rw [rqa])); try decreasing_trivial) | (((rw [rqb])); try decreasing_trivial) | (((rw [ewn])); try decreasing_trivial) | (((with_reducible refine' Exists.intro _ (And.intro rea ?_))); try decreasing_trivial) | (((with_reducible refine ix_am1 ?_)); try decreasing_trivial) | (((with_reducible refine ix_am2 ?_)); try decreasing_trivial) | ((((with_reducible refine ix_map ?s1 ?s2 (fun x mx me => ?_)); (case s1 => (first | omega | (simp only [List.length_map]; omega) | (simp only [List.length_map]; exact Int.emod_nonneg _ (by omega)) | (simp only [List.length_map]; exact Int.emod_lt_of_pos _ (by omega)))); (case s2 => (first | omega | (simp only [List.length_map]; omega) | (simp only [List.length_map]; exact Int.emod_nonneg _ (by omega)) | (simp only [List.length_map]; exact Int.emod_lt_of_pos _ (by omega)))))); try decreasing_trivial) | ((((with_reducible refine ix_lett ?s1 ?s2 ?_); (case s1 => omega); (case s2 => omega))); try decreasing_trivial) | ((((with_reducible refine ix_sgnM (m := 6) ?s0 ?s1 ?s2 (fun v mv => ?_)); (case s0 => decide +kernel); (case s1 => omega); (case s2 => omega))); try decreasing_trivial) | ((((with_reducible refine ix_sgnM (m := 7) ?s0 ?s1 ?s2 (fun v mv => ?_)); (case s0 => decide +kernel); (case s1 => omega); (case s2 => omega))); try decreasing_trivial) | ((((with_reducible refine ix_i2 ?s1 ?s2 (fun v vi => ?_)); (case s1 => omega); (case s2 => omega))); try decreasing_trivial) | ((((with_reducible refine ix_i3 ?s1 ?s2 (fun v vi => ?_)); (case s1 => omega); (case s2 => omega))); try decreasing_trivial) | ((((with_reducible refine ix_i6 ?s1 ?s2 (fun v vi => ?_)); (case s1 => omega); (case s2 => omega))); try decreasing_trivial) | ((((with_reducible refine ix_cons ?s1 (fun ei => ?_) (fun ei => ?_)); (case s1 => omega))); try decreasing_trivial) | ((((with_reducible refine ix_nil ?s1); (case s1 => omega))); try decreasing_trivial) | ((((with_reducible refine ix_let2 ?s1 ?s2 ?_); (case s1 => omega); (case s2 => omega))); try decreasing_trivial) | ((with_reducible refine' Exists.intro _ (And.intro ?sd ?_)); (case sd => exact rfl); try decreasing_trivial) | ((with_reducible refine iteB (fun c => ?_) (fun c => ?_)) <;> (try simp only [decide_eq_true_eq, decide_eq_false_iff_not, Bool.not_eq_true', Bool.not_eq_false', id, List.length_map, eqv_int, eqv_str, List.any_cons, List.any_nil, Bool.or_eq_true, Bool.or_false, Bool.or_eq_false_iff] at c) <;> (try exact absurd c (by assumption)) <;> (try exact absurd (by assumption) c) <;> (try exact absurd c (by decide +kernel)) <;> (try exact absurd (c.symm.trans (show _ = true by assumption)) (by decide)) <;> (try exact absurd (c.symm.trans (show _ = false by assumption)) (by decide)) <;> (try decreasing_trivial)) | ((with_reducible refine' Exists.intro _ (And.intro kit_bb ?_)); try decreasing_trivial) | ((with_reducible refine' Exists.intro _ (And.intro kit_ll ?_)); try decreasing_trivial) | ((with_reducible refine' Exists.intro _ (And.intro kit_tt ?_)); try decreasing_trivial) | ((with_reducible refine' Exists.intro _ (And.intro kit_dd ?_)); try decreasing_trivial) | ((with_reducible refine' Exists.intro _ (And.intro kit_ii ?_)); try decreasing_trivial) | ((with_reducible refine' Exists.intro _ (And.intro kit_ss ?_)); try decreasing_trivial) | ((with_reducible refine' Exists.intro _ (And.intro kit_ib ?_)); try decreasing_trivial) | ((with_reducible refine' Exists.intro _ (And.intro kit_bi ?_)); try decreasing_trivial) | ((with_reducible refine dv_hit ?sd ?_); (case sd => first | exact rfl | decide +kernel); try decreasing_trivial) | ((with_reducible refine dv_miss ?sd ?_); (case sd => decide +kernel); try decreasing_trivial) | ((first | rw [inx_set] | rw [inx_tell] | rw [inx_ifr] | rw [inx_whl] | rw [inx_tms]); try decreasing_trivial) | ((first | rw [cut_lo1] | rw [cut_hi1] | rw [cut_lo2] | rw [cut_hi2] | rw [cut_lo3] | rw [cut_hi3] | rw [cut_lo4] | rw [cut_hi4] | rw [cut_lo5] | rw [cut_hi5] | rw [cut_lo6] | rw [cut_hi6]); try decreasing_trivial))))
section
variable {P : Program} {w : World} {K : PySem.W.Frag} {mg : Str → Option Value} {base : Heap} {fa : Addr} {fd : FuncData}
abbrev s_law_word : Stmt := top 25
abbrev n_law_word : List Str := ["_law_feed_here", "_law_word_here", "_law_k"]
theorem sc_law_word : FnScope n_law_word ["_law_feed_here"] (defScope s_law_word) := ⟨rfl, rfl, rfl, by decide +kernel, rfl, by decide +kernel, by decide +kernel⟩
theorem ok_law_word (F : Fun K "_law_word" "_law_word" s_law_word fa fd) (c_law_kept : DefOk P w K mg base "_law_kept" 1 [] [] sp_law_kept) (c_law_take : DefOk P w K mg base "_law_take" 1 ["_law_feed_here", "_law_many"] [0] sp_law_take) (z_range : mg "range" = none) :
    FnV P w K mg base 2 fa fd ["_law_feed_here"] [0] sp_law_word := by
  refine FnV.of F sc_law_word (fun os k kx h => by obtain ⟨a, b, rfl, _⟩ := h; rfl) fun cdv A outer s H E hg hr => ⟨_, _, (js_cons (js_if (jt_cmp (op_eqX hr.units) ok_eq (nomark _) (je_call [0] c_law_take hg hr (by first | decide | exact Nat.le_refl _ | omega) (takes_of rfl rfl rfl rfl) rfl (ja_cons (je_var 0) (ja_cons je_int ja_nil))) je_int) (js_one (js_ret (je_bin op_addX ok_add (je_ix (ix_X (u1 hr)) ok_ixX (je_call0 c_law_kept hg hr (by first | decide | exact Nat.le_refl _ | omega) (takes_of rfl rfl rfl rfl) rfl) (je_call [0] c_law_take hg hr (by first | decide | exact Nat.le_refl _ | omega) (takes_of rfl rfl rfl rfl) rfl (ja_cons (je_var 0) (ja_cons je_int ja_nil))) (fun _ _ => rfl)) (je_ix (ix_X (u1 hr)) ok_ixX je_str (je_call [0] c_law_take hg hr (by first | decide | exact Nat.le_refl _ | omega) (takes_of rfl rfl rfl rfl) rfl (ja_cons (je_var 0) (ja_cons je_int ja_nil))) (fun _ _ => rfl))))) js_nil)
      (js_cons (js_set (i := 1) rfl sc_law_word.nd rfl (Or.inl rfl) (je_m1 PySem.F.slot_str_join PySem.F.type_str_join mt_join ok_join je_str (je_lc (B0 := [0, 1]) (own := [("_law_k", 2)]) (show ∀ j, j < 3 → j ∉ ([2] : List Nat) → j ∈ ([0, 1] : List Nat) by decide) rfl sc_law_word.nd (ji_range1 rfl z_range (ja_cons (je_bin op_addX ok_add je_int (je_call [0] c_law_take hg hr (by first | decide | exact Nat.le_refl _ | omega) (takes_of rfl rfl rfl rfl) rfl (ja_cons (je_var 0) (ja_cons je_int ja_nil)))) ja_nil)) (blkOk_by (own := [("_law_k", 2)]) (N := n_law_word) (sc := defScope s_law_word) (by decide +kernel)) (fun _ _ _ _ _ => (jg_name (i := 2) rfl sc_law_word.nd rfl (Or.inl rfl))) (fun _ _ _ _ _ => jts_nil) (fun _ _ _ _ _ => (je_ix (ix_X (u1 hr)) ok_ixX je_str (je_call [0] c_law_take hg hr (by first | decide | exact Nat.le_refl _ | omega) takes0 rfl (ja_cons (je_var 0) (ja_cons je_int ja_nil))) (fun _ _ => rfl))))))
      (js_cons (js_if (jt_cmp (op_inXX (u65 hr)) ok_inX (by rfl) (je_var 1) (je_call0 c_law_kept hg hr (by first | decide | exact Nat.le_refl _ | omega) (takes_of rfl rfl rfl rfl) rfl)) (js_one (js_ret (je_bin op_addX ok_add (je_slU (je_var 1) (je_un un_neg ok_neg je_int)) je_str))) js_nil)
      (js_one (js_ret (je_var 1)))))), fun os kk kx h => ?_⟩
  obtain ⟨a, b, rfl, k⟩ := h
  have e0 : (Str.ofString "").length = 0 := by decide +kernel
  try dsimp only [n_law_word, List.length_cons, List.length_nil, Nat.reduceAdd, Nat.reduceSub]
  try decreasing_trivial
  trivial
  · refine ix_map (by omega) (by rw [kept_len]; omega) (fun x mx me => ?_)
    have kx := (kept_q x mx).1
    try dsimp only [n_law_word, List.length_cons, List.length_nil, Nat.reduceAdd, Nat.reduceSub]
    try decreasing_trivial
    trivial
    refine ⟨small (by show x.length + 1 ≤ 100000; omega), ?_⟩
    exact k _ _ _ (kept_nx mx (by omega) (by omega))
  · refine lcW_go (fun ds acc g => ∃ a b ys, g = [some (.ls [.int a, .int b]), none, none] ∧ acc = ys.map PyData.str ∧ (∀ y ∈ ys, y.length = 1 ∧ isLow y) ∧ ys.length + ds.length = (1 + r).toNat) ?_ ?_ _ _ _ ⟨a, b, [], rfl, rfl, fun _ m => absurd m List.not_mem_nil, by simp⟩
    · rintro d ds acc g K ⟨a, b, ys, rfl, rfl, h2, h3⟩ hk
      rw [List.length_cons] at h3
      have hz : (ys.map PyData.str).length < sizeLine := by rw [List.length_map]; exact Nat.lt_of_lt_of_le (by omega : _ < 1000) (by decide)
      try dsimp only [n_law_word, List.length_cons, List.length_nil, Nat.reduceAdd, Nat.reduceSub]
      try decreasing_trivial
      trivial
      refine hk _ _ ⟨_, _, ys ++ [sg _], rfl, by rw [List.map_append]; rfl, fun y m => ?_, by rw [List.length_append]; show ys.length + 1 + _ = _; omega⟩
      rcases List.mem_append.mp m with m | m
      · exact h2 y m
      · rw [List.mem_singleton.mp m]
        exact ⟨rfl, low_one (by omega) (by omega)⟩
    rintro acc g ⟨a, b, ys, rfl, rfl, h2, h3⟩
    rw [List.length_nil] at h3
    refine ⟨ys, txts_of, by rw [ones_sum fun y m => (h2 y m).1, e0]; omega, ?_⟩
    have e := ones_join fun y m => (h2 y m).1
    have low : isLow (Txt.join (Str.ofString "") ys) := low_join fun y m => (h2 y m).2
    generalize Txt.join (Str.ofString "") ys = st at e low
    have sc := cutS_length st none (some (-1))
    have sz : ("z" : Str).length = 1 := by decide +kernel
    have sl : (cutS st none (some (-1))).length + ("z" : Str).length ≤ sizeLine := small (by omega)
    try dsimp only [n_law_word, List.length_cons, List.length_nil, Nat.reduceAdd, Nat.reduceSub]
    try decreasing_trivial
    trivial
    · exact k _ _ _ (kept_z _ (inK_mem c))
    · exact k _ _ _ ⟨by omega, by omega, low, inK_not c⟩
end
end KR

namespace KR
open PySem PySem.Spec PyProof.Rows L2 VL
set_option hygiene false
local macro_rules | `(tactic| decreasing_trivial) => `(tactic| dsimp only [x_aNil, x_aCons, x_rOp, x_rOu, x_rVar, x_rC, x_rT, x_rTand, x_rTor, x_rTnot, x_rAnd, x_rOr, x_rNot, x_rIf, x_rOt, x_rNewD, x_rSlLU, x_rSlL, x_rSlU, x_rChain, x_sNil, x_sSeq, x_sBreak, x_sCont, x_sExpr, x_sRet, x_sRetN, x_sIf, x_sSet, x_rMv, x_rFz, x_rMt, x_rMr, x_sSetL, x_rCall, x_bName, x_bTup, x_rSeq, x_rRange1, x_rRange2, x_sFor, x_rLc, x_rYes, x_rIsi1, x_rM0, x_rM1, x_aLate, x_sPar, x_sAug, x_tt, x_ff, x_bNames0, x_bNames1, x_lcT, x_wipe0, x_wipe1, x_AN_of_nx, x_AN_of_rt, x_AN_of_ex, x_seq_nx, x_seq_rt, x_seq_bk, x_seq_ct, x_seq_ex, x_loop_nx, x_loop_rt, x_loop_bk, x_loop_ct, x_loop_ex, x_grd_p, x_grd_ow, x_grd_sl, x_grd_vw, x_vwO_p, x_vwO_ls, x_vwO_lo, x_vwO_dc, x_vwO_dco, x_vwO_ins, x_vwO_fl, x_datL0, x_datL1, x_dat_p, x_dat_sl, x_dat_vw, x_dat_ow, x_sh_p, x_sh_ls, x_sh_dc, x_datu_p, x_datu_ls, x_datu_dc, x_datu_fl, x_datu_vw, x_datu_ow, x_takes0, x_takes_p, x_takes_ow, x_map_some, x_frz_p, x_frz_ls, x_frz_dc, x_take1_p, x_take1_ow, x_own1_p, x_own1_ow, x_slots_p, x_slots_sl, x_slots_ow, x_vwp_sl, x_vwp_vw, x_toO_p, x_toO_sl, x_toO_ow, x_wb_sl, x_wb_p, x_wb_ow, x_wb0, x_wb00, x_seqM_list, x_seqM_tuple, x_seqM_str, x_isI, x_all, x_any, x_join_l, x_join_t, x_add_i, x_add_s, x_add_l, x_add_t, x_sub, x_mod, x_div, x_pow, x_mul_i, x_mul_s, x_neg, x_cmp, x_eq, x_eq_s, x_eq_i, x_eq_b, x_eq_n, x_eq_ns, x_eq_sn, x_eq_is, x_eq_si, x_eq_ll, x_eq_t2, x_isN_n, x_isN_i, x_isN_s, x_isN_l, x_isN_t, x_in_s, x_in_sl, x_in_il, x_in_tl, x_in_st, x_in_it, x_len_s, x_len_l, x_len_t, x_ix_l, x_ix_t, x_ix_s, x_tup, x_lst, x_sl_s, x_sl_l, x_sl_t, x_append, x_extend, x_max_i, x_max_l, x_min, x_int_i, x_int_b, x_listOf_l, x_listOf_t, x_tupOf_l, x_tupOf_t, x_repr_i, x_repr_l, x_repr_t, x_map0, x_map1, x_app0, x_app1, x_set0, x_setS, x_get0, x_getS, x_Tr_num, x_Tr_cel, x_Tr_inn, x_Tr_op, x_forW0, x_forW1, x_lcW0, x_lcW1, x_drop1, x_drop0, x_dropn, x_take1s, x_take0, x_taken, x_ty_l, x_ty_t, x_ty_i, x_ty_b, x_ty_s, x_ty_d, x_rDisp, x_rDispN, x_sSetD, x_rGet2, x_rEnum, x_ixX_ds, x_ixX_di, x_ixX_l, x_ixX_t, x_ixX_s, x_inX_ds, x_inX_di, x_inX_s, x_inX_sl, x_inX_il, x_inX_tl, x_inX_st, x_inX_it, x_lenX_d, x_lenX_s, x_lenX_l, x_lenX_t, x_mulY_t, x_mulY_i, x_mulY_s, x_kD_i, x_kD_s, x_kP_i, x_kP_s, x_zip1, x_zip0, x_mClear, x_mReverse, x_enum0, x_scene_map, x_scene_len, x_Row_set, x_Row_tell, x_Row_ifr, x_Row_whl, x_Row_tms, x_bod_set, x_bod_tell, x_bod_ifr, x_bod_whl, x_bod_tms, x_enum1, x_enum2, x_wayO_some, x_wayO_none, x_i01, x_i11, x_sRaise1, x_sRaise0, x_sTry, x_rIs, x_rFld, x_rIsTu, x_tr_nx, x_tr_rt, x_tr_bk, x_tr_ct, x_tr_ex, x_su_nx, x_su_rt, x_su_bk, x_su_ct, x_isB, x_rp, x_held0, x_heldS, x_sUnp, x_sUnl, x_rRm, x_cnt, x_idx, x_sidx, x_tyOk_l, x_tyOk_s, x_tyOk_d, x_nc0, x_nc1, x_nc2, x_nc3, x_nc4, x_nc5, x_nc6, x_nc7, x_nc8, x_nc9, x_rRev, x_rZip, x_rsl0, x_rsl1, x_intX_s, x_intX_i, x_intX_b, x_strX_s, x_strX_i, List.map_nil, List.map_cons, List.cons_append, List.nil_append, List.append_nil, List.replicate_succ, List.replicate_zero, List.length_cons, List.length_nil, List.contains, List.elem, Nat.reduceBEq, Nat.reduceAdd, Nat.reduceSub, List.all_nil, List.all_cons, Int.reduceNeg, Int.reduceSub, Int.reduceAdd, id])
local macro_rules | `(tactic| trivial) => `(tactic| repeat (any_goals (first | ((with_reducible refine And.intro ?sd ?_); (case sd => (first | exact rfl | omega | assumption | (simp only [List.length_map, List.length_append, List.length_cons, List.length_nil, List.length_set, List.length_take, List.length_drop, List.length_range, List.length_reverse]; omega) | exact small (by omega) | exact cut_le (by omega) | exact sl_add (by first | omega | decide +kernel | exact cut_le (by omega) | exact up_le (by omega) | exact up_le (cut_le (by omega)) | exact app_le (by exact up_le4 (cut_le (by omega))) (by exact cut_le (by omega)) | exact app_le (by decide) (by omega) | exact app_le (by first | omega | exact cut_le (by omega)) (by first | omega | exact cut_le (by omega))) (by first | omega | decide +kernel | exact cut_le (by omega) | exact up_le (by omega) | exact up_le (cut_le (by omega)) | exact app_le (by exact up_le4 (cut_le (by omega))) (by exact cut_le (by omega)) | exact app_le (by decide) (by omega) | exact app_le (by first | omega | exact cut_le (by omega)) (by first | omega | exact cut_le (by omega))) | exact ⟨by omega, by omega⟩ | exact Or.inr ⟨by decide, by decide⟩ | exact Or.inl ⟨by omega, by omega⟩ | exact Or.inl ⟨by decide, by decide⟩ | exact ⟨by decide, by decide, by decide⟩ | exact small (by simp only [List.length_map, List.length_append, List.length_cons, List.length_nil, List.length_set, List.length_take, List.length_drop, List.length_range, List.length_reverse]; omega) | exact log_ok (by omega) (by omega) | (split <;> omega) | exact small (by rw [rowsD_len]; have := RowsIn.rlen (by assumption); omega) | exact small (by simp only [List.length_append, List.length_cons, List.length_nil, rowsD_len]; omega) | exact Nat.lt_of_lt_of_le (by simp only [List.length_append, List.length_cons, List.length_nil, rowsD_len, List.length_map]; omega : _ < 100000) (by decide) | rfl | decide))) | ((with_reducible refine' Exists.intro _ (And.intro put_scene ?_)); try decreasing_trivial) | ((with_reducible show sp_law_take _ _ _); (first | refine ⟨_, _, _, rfl, by decide, by decide, fun r a b r0 r1 => ?_⟩ | refine ⟨_, _, _, rfl, by omega, by omega, fun r a b r0 r1 => ?_⟩ | (refine ⟨_, _, _, rfl, by simp only [List.length_map]; omega, by simp only [List.length_map]; omega, fun r a b r0 r1 => ?_⟩; simp only [List.length_map] at r1)); try decreasing_trivial) | ((with_reducible show sp_law_feed _ _ _); (refine ⟨_, _, rfl, by omega, by omega, by omega, fun fa fb => ?_⟩); try decreasing_trivial) | ((with_reducible show sp_parts _ _ _ _); (refine ⟨_, rfl, by assumption, by assumption, ?_⟩); try decreasing_trivial) | ((with_reducible show sp_deep _ _ _ _); (refine ⟨_, rfl, by assumption, ?_⟩); try decreasing_trivial) | ((with_reducible show sp_cells _ _ _ _); (refine ⟨_, rfl, by assumption, by assumption, ?_⟩); try decreasing_trivial) | ((with_reducible show sp_law_number _ _ _); (refine ⟨_, _, rfl, fun nv a b n0 n1 => ?_⟩); try decreasing_trivial) | ((with_reducible show sp_law_names _ _ _); (refine ⟨_, _, _, rfl, by omega, by omega, fun ws a b wl wn => ?_⟩); try decreasing_trivial) | ((with_reducible show sp_law_scene _ _ _); (refine ⟨_, _, rfl, fun cs ms a b sc => ?_⟩); try decreasing_trivial) | ((with_reducible show sp_law_mark _ _ _); (refine ⟨_, _, _, rfl, by omega, by omega, by omega, fun m me => ?_⟩); try decreasing_trivial) | ((with_reducible show sp_law_term _ _ _ _); (refine ⟨_, _, _, _, _, _, _, rfl, by omega, by omega, by omega, by omega, by omega, by omega, fun t a b t1 t2 t3 => ?_⟩); try decreasing_trivial) | ((with_reducible show sp_law_row _ _ _ _); (refine ⟨_, _, _, _, _, _, _, rfl, by assumption, by omega, by omega, by omega, by omega, by omega, fun rw a b u l l0 ul ri uu => ?_⟩); try decreasing_trivial) | ((with_reducible show sp_law_body _ _ _ _); (refine ⟨_, _, _, _, _, _, _, rfl, by assumption, by omega, by omega, by omega, by omega, by omega, fun bd a b u l l0 ul ri uu une => ?_⟩); try decreasing_trivial) | ((with_reducible show sp_law_program _ _ _); (refine ⟨_, _, _, _, _, rfl, by assumption, by omega, by omega, fun pr a b u u0 u1 ri pne => ?_⟩); try decreasing_trivial) | ((with_reducible show sp_bodies_in _ _ _); (first | refine ⟨.set _ _ _, rfl, ?_⟩ | refine ⟨.tell _ _, rfl, ?_⟩ | refine ⟨.ifr _ _ _ _, rfl, ?_⟩ | (refine ⟨.whl _ _ _, by exact rfl, ?_⟩) | refine ⟨.tms _ _ _, rfl, ?_⟩ | refine ⟨_, rfl, ?_⟩); try decreasing_trivial) | ((with_reducible show sp_law_bodies _ _ _); (first | refine ⟨.set _ _ _, rfl, ?_⟩ | refine ⟨.tell _ _, rfl, ?_⟩ | refine ⟨.ifr _ _ _ _, rfl, ?_⟩ | (refine ⟨.whl _ _ _, by exact rfl, ?_⟩) | refine ⟨.tms _ _ _, rfl, ?_⟩ | refine ⟨_, rfl, ?_⟩); try decreasing_trivial) | ((with_reducible show sp_rows _ _ _ _); (refine ⟨_, rfl, by omega, by omega, ?_⟩); try decreasing_trivial) | ((with_reducible show sp_marks _ _ _ _); (refine ⟨_, rfl, by omega, by omega, ?_⟩); try decreasing_trivial) | ((with_reducible show sp_way_to _ _ _ _); (refine ⟨_, _, rfl, by omega, by omega, ?_⟩; (try simp only [ha]); (try simp only [hb])); try decreasing_trivial) | ((with_reducible show sp_spot _ _ _ _); (refine ⟨_, _, _, rfl, by assumption, by omega, by omega, ?_⟩; (try rw [esp])); try decreasing_trivial) | ((with_reducible show sp_loops _ _ _ _); (refine ⟨_, _, _, rfl, by assumption, by omega, by omega, ?_⟩); try decreasing_trivial) | ((with_reducible show sp_need_text er _ _ _); (refine ⟨_, _, rfl, fun q => ?_, fun q => ?_⟩); try decreasing_trivial) | ((with_reducible show sp_is_name _ _ _); (refine ⟨_, rfl, by omega, ?_⟩); try decreasing_trivial) | ((with_reducible show sp_is_number _ _ _); (refine ⟨_, rfl, by omega, ?_⟩); try decreasing_trivial) | ((with_reducible show sp_leaf_of er _ _ _); (refine ⟨_, _, _, rfl, by first | omega | (simp only [mkS_len]; omega), by first | exact mkS_l _ | rfl, fun t ht => ?_, fun ht => ?_⟩); try decreasing_trivial) | ((with_reducible show sp_term_at er _ _ _ _); (refine ⟨_, _, _, _, rfl, by omega, by omega, by omega, by first | assumption | rfl, by omega, fun t l ht => ?_, fun ht => ?_⟩); try decreasing_trivial) | ((with_reducible show sp_whole_term er _ _ _); (refine ⟨_, _, rfl, by omega, by omega, fun t ht => ?_, fun ht => ?_⟩); try decreasing_trivial) | ((with_reducible show sp_read_term er _ _ _); (refine ⟨_, rfl, by omega, by omega, fun t ht => ?_, fun ht => ?_⟩); try decreasing_trivial) | ((with_reducible show sp_term_text _ _ _ _); (refine ⟨_, rfl, by first | assumption | omega, by assumption, by omega, ?_⟩); try decreasing_trivial) | ((with_reducible show sp_law_term_text _ _ _ _); (refine ⟨_, rfl, by first | assumption | omega, by assumption, by omega, ?_⟩); try decreasing_trivial) | ((with_reducible show sp_law_kept _ _ _); (refine ⟨rfl, ?_⟩); try decreasing_trivial) | ((with_reducible show sp_law_word _ _ _); (refine ⟨_, _, rfl, fun wd a b wx => ?_⟩); try decreasing_trivial) | ((with_reducible show sp_law_any_term _ _ _ _); (first | refine ⟨_, _, _, _, _, rfl, by assumption, by assumption, by omega, by omega, by omega, by omega, fun t a b t1 t2 t3 => ?_⟩ | refine ⟨_, _, [_, _], _, _, rfl, by decide, by decide, by omega, by omega, by omega, by omega, fun t a b t1 t2 t3 => ?_⟩ | refine ⟨_, _, _, _, _, rfl, by assumption, by assumption, by omega, by omega, by omega, by omega, fun t a b t1 t2 t3 => ?_⟩ | refine ⟨_, _, _, _, _, rfl, by omega, by omega, by omega, by omega, by omega, by omega, fun t a b t1 t2 t3 => ?_⟩); try decreasing_trivial) | ((with_reducible show sp_law_alike _ _ _ _); (refine ⟨_, _, rfl, by assumption, by omega, ?_⟩); try decreasing_trivial) | ((with_reducible refine px_0 ?sd ?_); (case sd => (first | omega | (simp only [List.length_map, List.length_append, List.length_cons, List.length_nil, List.length_set, List.length_take, List.length_drop, List.length_range, List.length_reverse]; omega))); try decreasing_trivial) | ((with_reducible refine px_1 ?sd ?_); (case sd => (first | omega | (simp only [List.length_map, List.length_append, List.length_cons, List.length_nil, List.length_set, List.length_take, List.length_drop, List.length_range, List.length_reverse]; omega))); try decreasing_trivial) | ((with_reducible refine px_2 ?sd ?_); (case sd => (first | omega | (simp only [List.length_map, List.length_append, List.length_cons, List.length_nil, List.length_set, List.length_take, List.length_drop, List.length_range, List.length_reverse]; omega))); try decreasing_trivial) | ((with_reducible refine px_3 ?sd ?_); (case sd => (first | omega | (simp only [List.length_map, List.length_append, List.length_cons, List.length_nil, List.length_set, List.length_take, List.length_drop, List.length_range, List.length_reverse]; omega))); try decreasing_trivial) | ((with_reducible refine px_m1 ?sd ?_); (case sd => (first | omega | (simp only [List.length_map, List.length_append, List.length_cons, List.length_nil, List.length_set, List.length_take, List.length_drop, List.length_range, List.length_reverse]; omega))); try decreasing_trivial) | ((with_reducible refine px_i ?s1 ?s2 ?_); (case s1 => (first | omega | (simp only [List.length_map, List.length_append, List.length_cons, List.length_nil, List.length_set, List.length_take, List.length_drop, List.length_range, List.length_reverse]; omega))); (case s2 => (first | omega | (simp only [List.length_map, List.length_append, List.length_cons, List.length_nil, List.length_set, List.length_take, List.length_drop, List.length_range, List.length_reverse]; omega))); try decreasing_trivial) | ((with_reducible refine' ix_0 ?sd ?_); (case sd => exact rfl); try decreasing_trivial) | ((with_reducible refine' ix_1 ?sd ?_); (case sd => exact rfl); try decreasing_trivial) | ((with_reducible refine' ix_2 ?sd ?_); (case sd => exact rfl); try decreasing_trivial) | ((with_reducible refine' ix_3 ?sd ?_); (case sd => exact rfl); try decreasing_trivial) | ((with_reducible refine' ix_4 ?sd ?_); (case sd => exact rfl); try decreasing_trivial) | ((with_reducible refine' ix_5 ?sd ?_); (case sd => exact rfl); try decreasing_trivial) | ((with_reducible refine' ix_m1 ?sd ?_); (case sd => exact rfl); try decreasing_trivial) | ((with_reducible refine' ix_m2 ?sd ?_); (case sd => exact rfl); try decreasing_trivial) | (((rw [rqa])); try decreasing_trivial) | (((rw [rqb])); try decreasing_trivial) | (((rw [ewn])); try decreasing_trivial) | (((with_reducible refine' Exists.intro _ (And.intro rea ?_))); try decreasing_trivial) | (((with_reducible refine ix_am1 ?_)); try decreasing_trivial) | (((with_reducible refine ix_am2 ?_)); try decreasing_trivial) | ((((with_reducible refine ix_map ?s1 ?s2 (fun x mx me => ?_)); (case s1 => (first | omega | (simp only [List.length_map]; omega) | (simp only [List.length_map]; exact Int.emod_nonneg _ (by omega)) | (simp only [List.length_map]; exact Int.emod_lt_of_pos _ (by omega)))); (case s2 => (first | omega | (simp only [List.length_map]; omega) | (simp only [List.length_map]; exact Int.emod_nonneg _ (by omega)) | (simp only [List.length_map]; exact Int.emod_lt_of_pos _ (by omega)))))); try decreasing_trivial) | ((((with_reducible refine ix_lett ?s1 ?s2 ?_); (case s1 => omega); (case s2 => omega))); try decreasing_trivial) | ((((with_reducible refine ix_sgnM (m := 6) ?s0 ?s1 ?s2 (fun v mv => ?_)); (case s0 => decide +kernel); (case s1 => omega); (case s2 => omega))); try decreasing_trivial) | ((((with_reducible refine ix_sgnM (m := 7) ?s0 ?s1 ?s2 (fun v mv => ?_)); (case s0 => decide +kernel); (case s1 => omega); (case s2 => omega))); try decreasing_trivial) | ((((with_reducible refine ix_i2 ?s1 ?s2 (fun v vi => ?_)); (case s1 => omega); (case s2 => omega))); try decreasing_trivial) | ((((with_reducible refine ix_i3 ?s1 ?s2 (fun v vi => ?_)); (case s1 => omega); (case s2 => omega))); try decreasing_trivial) | ((((with_reducible refine ix_i6 ?s1 ?s2 (fun v vi => ?_)); (case s1 => omega); (case s2 => omega))); try decreasing_trivial) | ((((with_reducible refine ix_cons ?s1 (fun ei => ?_) (fun ei => ?_)); (case s1 => omega))); try decreasing_trivial) | ((((with_reducible refine ix_nil ?s1); (case s1 => omega))); try decreasing_trivial) | ((((with_reducible refine ix_let2 ?s1 ?s2 ?_); (case s1 => omega); (case s2 => omega))); try decreasing_trivial) | ((with_reducible refine' Exists.intro _ (And.intro ?sd ?_)); (case sd => exact rfl); try decreasing_trivial) | ((with_reducible refine iteB (fun c => ?_) (fun c => ?_)) <;> (try simp only [decide_eq_true_eq, decide_eq_false_iff_not, Bool.not_eq_true', Bool.not_eq_false', id, List.length_map, eqv_int, eqv_str, List.any_cons, List.any_nil, Bool.or_eq_true, Bool.or_false, Bool.or_eq_false_iff] at c) <;> (try exact absurd c (by assumption)) <;> (try exact absurd (by assumption) c) <;> (try exact absurd c (by decide +kernel)) <;> (try exact absurd (c.symm.trans (show _ = true by assumption)) (by decide)) <;> (try exact absurd (c.symm.trans (show _ = false by assumption)) (by decide)) <;> (try decreasing_trivial)) | ((with_reducible refine' Exists.intro _ (And.intro kit_bb ?_)); try decreasing_trivial) | ((with_reducible refine' Exists.intro _ (And.intro kit_ll ?_)); try decreasing_trivial) | ((with_reducible refine' Exists.intro _ (And.intro kit_tt ?_)); try decreasing_trivial) | ((with_reducible refine' Exists.intro _ (And.intro kit_dd ?_)); try decreasing_trivial) | ((with_reducible refine' Exists.intro _ (And.intro kit_ii ?_)); try decreasing_trivial) | ((with_reducible refine' Exists.intro _ (And.intro kit_ss ?_)); try decreasing_trivial) | ((with_reducible refine' Exists.intro _ (And.intro kit_ib ?_)); try decreasing_trivial) | ((with_reducible refine' Exists.intro _ (And.intro kit_bi ?_)); try decreasing_trivial) | ((with_reducible refine dv_hit ?sd ?_); (case sd => first | exact rfl | decide +kernel); try decreasing_trivial) | ((with_reducible refine dv_miss ?sd ?_); (case sd => decide +kernel); try decreasing_trivial) | ((first | rw [inx_set] | rw [inx_tell] | rw [inx_ifr] | rw [inx_whl] | rw [inx_tms]); try decreasing_trivial) | ((first | rw [cut_lo1] | rw [cut_hi1] | rw [cut_lo2] | rw [cut_hi2] | rw [cut_lo3] | rw [cut_hi3] | rw [cut_lo4] | rw [cut_hi4] | rw [cut_lo5] | rw [cut_hi5] | rw [cut_lo6] | rw [cut_hi6]); try decreasing_trivial))))
section
variable {P : Program} {w : World} {K : PySem.W.Frag} {mg : Str → Option Value} {base : Heap} {fa : Addr} {fd : FuncData}
abbrev s_law_any_term : Stmt := top 26
abbrev n_law_any_term : List Str := ["_law_feed_here", "_law_words", "_law_room", "_law_down", "_law_form", "_law_left", "_law_sign", "_law_one"]
theorem sc_law_any_term : FnScope n_law_any_term ["_law_feed_here", "_law_words", "_law_room", "_law_down"] (defScope s_law_any_term) := ⟨rfl, rfl, rfl, by decide +kernel, rfl, by decide +kernel, by decide +kernel⟩
theorem ok_law_any_term {n : Nat} (F : Fun K "_law_any_term" "_law_any_term" s_law_any_term fa fd) (c_law_any_term : DefOk P w K mg base "_law_any_term" (n + 2) ["_law_feed_here", "_law_words", "_law_room", "_law_down"] [0, 1] (sp_law_any_term n)) (c_law_take : DefOk P w K mg base "_law_take" 1 ["_law_feed_here", "_law_many"] [0] sp_law_take) (c_law_number : DefOk P w K mg base "_law_number" 2 ["_law_feed_here"] [0] sp_law_number) (z_len : mg "len" = none) :
    FnV P w K mg base (n + 3) fa fd ["_law_feed_here", "_law_words", "_law_room", "_law_down"] [0, 1] (sp_law_any_term (n + 1)) := by
  refine FnV.of F sc_law_any_term (fun os k kx h => by obtain ⟨a, b, ws, rm, dn, rfl, _⟩ := h; rfl) fun cdv A outer s H E hg hr => ⟨_, _, (js_cons (js_set (i := 4) rfl sc_law_any_term.nd rfl (Or.inl rfl) (je_call [0] c_law_take hg hr (by first | decide | exact Nat.le_refl _ | omega) (takes_of rfl rfl rfl rfl) rfl (ja_cons (je_var 0) (ja_cons je_int ja_nil))))
      (js_cons (js_if (JW.t (jw_or (jt_cmp op_lt ok_cmpI (nomark _) (je_var 2) je_int) (jw_or (jt_cmp op_lt ok_cmpI (nomark _) (je_var 3) je_int) (jw_or1 (jt_cmp op_lt ok_cmpI (nomark _) (je_var 4) je_int))))) (js_cons (js_set (i := 4) rfl sc_law_any_term.nd rfl (Or.inl rfl) (je_call [0] c_law_take hg hr (by first | decide | exact Nat.le_refl _ | omega) (takes_of rfl rfl rfl rfl) rfl (ja_cons (je_var 0) (ja_cons je_int ja_nil))))
      (js_cons (js_if (jt_cmp (op_eqX hr.units) ok_eq (nomark _) (je_var 4) je_int) (js_one (js_ret (je_tup (ja_cons je_str (ja_cons (je_call [0] c_law_number hg hr (by first | decide | exact Nat.le_refl _ | omega) (takes_of rfl rfl rfl rfl) rfl (ja_cons (je_var 0) ja_nil)) ja_nil))))) js_nil)
      (js_cons (js_if (jt_cmp (op_eqX hr.units) ok_eq (nomark _) (je_var 4) je_int) (js_one (js_ret (je_tup (ja_cons je_str (ja_cons (je_call [0] c_law_take hg hr (by first | decide | exact Nat.le_refl _ | omega) (takes_of rfl rfl rfl rfl) rfl (ja_cons (je_var 0) (ja_cons je_int ja_nil))) ja_nil))))) js_nil)
      (js_one (js_ret (je_tup (ja_cons je_str (ja_cons (je_ix (ix_X (u1 hr)) ok_ixX (je_var 1) (je_call [0] c_law_take hg hr (by first | decide | exact Nat.le_refl _ | omega) (takes_of rfl rfl rfl rfl) rfl (ja_late 0 (ja_cons (je_B call_lenX ok_lenX rfl z_len PySem.boot_len (ja_cons (je_var 1) ja_nil)) ja_nil))) (fun _ _ => rfl)) ja_nil)))))))) js_nil)
      (js_cons (js_set (i := 5) rfl sc_law_any_term.nd rfl (Or.inl rfl) (je_bin op_addX ok_add je_int (je_call [0] c_law_take hg hr (by first | decide | exact Nat.le_refl _ | omega) (takes_of rfl rfl rfl rfl) rfl (ja_cons (je_var 0) (ja_cons (je_bin op_sub ok_sub (je_var 2) je_int) ja_nil)))))
      (js_cons (js_set (i := 6) rfl sc_law_any_term.nd rfl (Or.inl rfl) (je_ix (ix_X (u1 hr)) ok_ixX je_str (je_call [0] c_law_take hg hr (by first | decide | exact Nat.le_refl _ | omega) (takes_of rfl rfl rfl rfl) rfl (ja_cons (je_var 0) (ja_cons je_int ja_nil))) (fun _ _ => rfl)))
      (js_cons (js_set (i := 7) rfl sc_law_any_term.nd rfl (Or.inl rfl) (je_call [0, 1] c_law_any_term hg hr (by first | decide | exact Nat.le_refl _ | omega) (takes_of rfl rfl rfl rfl) rfl (ja_cons (je_var 0) (ja_cons (je_var 1) (ja_cons (je_var 5) (ja_cons (je_bin op_sub ok_sub (je_var 3) je_int) ja_nil))))))
      (js_one (js_ret (je_tup (ja_cons je_str (ja_cons (je_var 6) (ja_cons (je_var 7) (ja_cons (je_call [0, 1] c_law_any_term hg hr (by first | decide | exact Nat.le_refl _ | omega) (takes_of rfl rfl rfl rfl) rfl (ja_cons (je_var 0) (ja_cons (je_var 1) (ja_cons (je_bin op_sub ok_sub (je_bin op_sub ok_sub (je_var 2) je_int) (je_var 5)) (ja_cons (je_bin op_sub ok_sub (je_var 3) je_int) ja_nil))))) ja_nil)))))))))))), fun os kk kx h => ?_⟩
  obtain ⟨a, b, ws, rm, dn, rfl, h0, h1, h2, h3, h4, h5, k⟩ := h
  try dsimp only [n_law_any_term, List.length_cons, List.length_nil, Nat.reduceAdd, Nat.reduceSub]
  try decreasing_trivial
  trivial
  all_goals first
    | exact k (.num _) _ _ (by simp only [Tr.down]; omega) (by simp only [Tr.parts, List.length_cons, List.length_nil]; omega) ⟨by omega, by omega⟩
    | exact k (.cel _) _ _ (by simp only [Tr.down]; omega) (by simp only [Tr.parts, List.length_cons, List.length_nil]; omega) mx
    | exact k (.inn _) _ _ (by simp only [Tr.down]; omega) (by simp only [Tr.parts, List.length_cons, List.length_nil]; omega) ⟨by omega, by omega⟩
    | exact k (.op _ _ _) _ _ (by simp only [Tr.down]; omega) (by simp only [Tr.parts, List.length_cons, List.length_append]; omega) ⟨six_of mv, by assumption, by assumption⟩
    | trace_state
end
end KR

namespace KR
open PySem PySem.Spec PyProof.Rows L2 VL
set_option hygiene false
local macro_rules | `(tactic| decreasing_trivial) => `(tactic| dsimp only [x_aNil, x_aCons, x_rOp, x_rOu, x_rVar, x_rC, x_rT, x_rTand, x_rTor, x_rTnot, x_rAnd, x_rOr, x_rNot, x_rIf, x_rOt, x_rNewD, x_rSlLU, x_rSlL, x_rSlU, x_rChain, x_sNil, x_sSeq, x_sBreak, x_sCont, x_sExpr, x_sRet, x_sRetN, x_sIf, x_sSet, x_rMv, x_rFz, x_rMt, x_rMr, x_sSetL, x_rCall, x_bName, x_bTup, x_rSeq, x_rRange1, x_rRange2, x_sFor, x_rLc, x_rYes, x_rIsi1, x_rM0, x_rM1, x_aLate, x_sPar, x_sAug, x_tt, x_ff, x_bNames0, x_bNames1, x_lcT, x_wipe0, x_wipe1, x_AN_of_nx, x_AN_of_rt, x_AN_of_ex, x_seq_nx, x_seq_rt, x_seq_bk, x_seq_ct, x_seq_ex, x_loop_nx, x_loop_rt, x_loop_bk, x_loop_ct, x_loop_ex, x_grd_p, x_grd_ow, x_grd_sl, x_grd_vw, x_vwO_p, x_vwO_ls, x_vwO_lo, x_vwO_dc, x_vwO_dco, x_vwO_ins, x_vwO_fl, x_datL0, x_datL1, x_dat_p, x_dat_sl, x_dat_vw, x_dat_ow, x_sh_p, x_sh_ls, x_sh_dc, x_datu_p, x_datu_ls, x_datu_dc, x_datu_fl, x_datu_vw, x_datu_ow, x_takes0, x_takes_p, x_takes_ow, x_map_some, x_frz_p, x_frz_ls, x_frz_dc, x_take1_p, x_take1_ow, x_own1_p, x_own1_ow, x_slots_p, x_slots_sl, x_slots_ow, x_vwp_sl, x_vwp_vw, x_toO_p, x_toO_sl, x_toO_ow, x_wb_sl, x_wb_p, x_wb_ow, x_wb0, x_wb00, x_seqM_list, x_seqM_tuple, x_seqM_str, x_isI, x_all, x_any, x_join_l, x_join_t, x_add_i, x_add_s, x_add_l, x_add_t, x_sub, x_mod, x_div, x_pow, x_mul_i, x_mul_s, x_neg, x_cmp, x_eq, x_eq_s, x_eq_i, x_eq_b, x_eq_n, x_eq_ns, x_eq_sn, x_eq_is, x_eq_si, x_eq_ll, x_eq_t2, x_isN_n, x_isN_i, x_isN_s, x_isN_l, x_isN_t, x_in_s, x_in_sl, x_in_il, x_in_tl, x_in_st, x_in_it, x_len_s, x_len_l, x_len_t, x_ix_l, x_ix_t, x_ix_s, x_tup, x_lst, x_sl_s, x_sl_l, x_sl_t, x_append, x_extend, x_max_i, x_max_l, x_min, x_int_i, x_int_b, x_listOf_l, x_listOf_t, x_tupOf_l, x_tupOf_t, x_repr_i, x_repr_l, x_repr_t, x_map0, x_map1, x_app0, x_app1, x_set0, x_setS, x_get0, x_getS, x_Tr_num, x_Tr_cel, x_Tr_inn, x_Tr_op, x_forW0, x_forW1, x_lcW0, x_lcW1, x_drop1, x_drop0, x_dropn, x_take1s, x_take0, x_taken, x_ty_l, x_ty_t, x_ty_i, x_ty_b, x_ty_s, x_ty_d, x_rDisp, x_rDispN, x_sSetD, x_rGet2, x_rEnum, x_ixX_ds, x_ixX_di, x_ixX_l, x_ixX_t, x_ixX_s, x_inX_ds, x_inX_di, x_inX_s, x_inX_sl, x_inX_il, x_inX_tl, x_inX_st, x_inX_it, x_lenX_d, x_lenX_s, x_lenX_l, x_lenX_t, x_mulY_t, x_mulY_i, x_mulY_s, x_kD_i, x_kD_s, x_kP_i, x_kP_s, x_zip1, x_zip0, x_mClear, x_mReverse, x_enum0, x_scene_map, x_scene_len, x_Row_set, x_Row_tell, x_Row_ifr, x_Row_whl, x_Row_tms, x_bod_set, x_bod_tell, x_bod_ifr, x_bod_whl, x_bod_tms, x_enum1, x_enum2, x_wayO_some, x_wayO_none, x_i01, x_i11, x_sRaise1, x_sRaise0, x_sTry, x_rIs, x_rFld, x_rIsTu, x_tr_nx, x_tr_rt, x_tr_bk, x_tr_ct, x_tr_ex, x_su_nx, x_su_rt, x_su_bk, x_su_ct, x_isB, x_rp, x_held0, x_heldS, x_sUnp, x_sUnl, x_rRm, x_cnt, x_idx, x_sidx, x_tyOk_l, x_tyOk_s, x_tyOk_d, x_nc0, x_nc1, x_nc2, x_nc3, x_nc4, x_nc5, x_nc6, x_nc7, x_nc8, x_nc9, x_rRev, x_rZip, x_rsl0, x_rsl1, x_intX_s, x_intX_i, x_intX_b, x_strX_s, x_strX_i, List.map_nil, List.map_cons, List.cons_append, List.nil_append, List.append_nil, List.replicate_succ, List.replicate_zero, List.length_cons, List.length_nil, List.contains, List.elem, Nat.reduceBEq, Nat.reduceAdd, Nat.reduceSub, List.all_nil, List.all_cons, Int.reduceNeg, Int.reduceSub, Int.reduceAdd, id])
local macro_rules | `(tactic| trivial) => `(tactic| repeat (any_goals (first | ((with_reducible refine And.intro ?sd ?_); (case sd => (first | exact rfl | omega | assumption | (simp only [List.length_map, List.length_append, List.length_cons, List.length_nil, List.length_set, List.length_take, List.length_drop, List.length_range, List.length_reverse]; omega) | exact small (by omega) | exact cut_le (by omega) | exact sl_add (by first | omega | decide +kernel | exact cut_le (by omega) | exact up_le (by omega) | exact up_le (cut_le (by omega)) | exact app_le (by exact up_le4 (cut_le (by omega))) (by exact cut_le (by omega)) | exact app_le (by decide) (by omega) | exact app_le (by first | omega | exact cut_le (by omega)) (by first | omega | exact cut_le (by omega))) (by first | omega | decide +kernel | exact cut_le (by omega) | exact up_le (by omega) | exact up_le (cut_le (by omega)) | exact app_le (by exact up_le4 (cut_le (by omega))) (by exact cut_le (by omega)) | exact app_le (by decide) (by omega) | exact app_le (by first | omega | exact cut_le (by omega)) (by first | omega | exact cut_le (by omega))) | exact ⟨by omega, by omega⟩ | exact Or.inr ⟨by decide, by decide⟩ | exact Or.inl ⟨by omega, by omega⟩ | exact Or.inl ⟨by decide, by decide⟩ | exact ⟨by decide, by decide, by decide⟩ | exact small (by simp only [List.length_map, List.length_append, List.length_cons, List.length_nil, List.length_set, List.length_take, List.length_drop, List.length_range, List.length_reverse]; omega) | exact log_ok (by omega) (by omega) | (split <;> omega) | exact small (by rw [rowsD_len]; have := RowsIn.rlen (by assumption); omega) | exact small (by simp only [List.length_append, List.length_cons, List.length_nil, rowsD_len]; omega) | exact Nat.lt_of_lt_of_le (by simp only [List.length_append, List.length_cons, List.length_nil, rowsD_len, List.length_map]; omega : _ < 100000) (by decide) | rfl | decide))) | ((with_reducible refine' Exists.intro _ (And.intro put_scene ?_)); try decreasing_trivial) | ((with_reducible show sp_law_take _ _ _); (first | refine ⟨_, _, _, rfl, by decide, by decide, fun r a b r0 r1 => ?_⟩ | refine ⟨_, _, _, rfl, by omega, by omega, fun r a b r0 r1 => ?_⟩ | (refine ⟨_, _, _, rfl, by simp only [List.length_map]; omega, by simp only [List.length_map]; omega, fun r a b r0 r1 => ?_⟩; simp only [List.length_map] at r1)); try decreasing_trivial) | ((with_reducible show sp_law_feed _ _ _); (refine ⟨_, _, rfl, by omega, by omega, by omega, fun fa fb => ?_⟩); try decreasing_trivial) | ((with_reducible show sp_parts _ _ _ _); (refine ⟨_, rfl, by assumption, by assumption, ?_⟩); try decreasing_trivial) | ((with_reducible show sp_deep _ _ _ _); (refine ⟨_, rfl, by assumption, ?_⟩); try decreasing_trivial) | ((with_reducible show sp_cells _ _ _ _); (refine ⟨_, rfl, by assumption, by assumption, ?_⟩); try decreasing_trivial) | ((with_reducible show sp_law_number _ _ _); (refine ⟨_, _, rfl, fun nv a b n0 n1 => ?_⟩); try decreasing_trivial) | ((with_reducible show sp_law_names _ _ _); (refine ⟨_, _, _, rfl, by omega, by omega, fun ws a b wl wn => ?_⟩); try decreasing_trivial) | ((with_reducible show sp_law_scene _ _ _); (refine ⟨_, _, rfl, fun cs ms a b sc => ?_⟩); try decreasing_trivial) | ((with_reducible show sp_law_mark _ _ _); (refine ⟨_, _, _, rfl, by omega, by omega, by omega, fun m me => ?_⟩); try decreasing_trivial) | ((with_reducible show sp_law_term _ _ _ _); (refine ⟨_, _, _, _, _, _, _, rfl, by omega, by omega, by omega, by omega, by omega, by omega, fun t a b t1 t2 t3 => ?_⟩); try decreasing_trivial) | ((with_reducible show sp_law_row _ _ _ _); (refine ⟨_, _, _, _, _, _, _, rfl, by assumption, by omega, by omega, by omega, by omega, by omega, fun rw a b u l l0 ul ri uu => ?_⟩); try decreasing_trivial) | ((with_reducible show sp_law_body _ _ _ _); (refine ⟨_, _, _, _, _, _, _, rfl, by assumption, by omega, by omega, by omega, by omega, by omega, fun bd a b u l l0 ul ri uu une => ?_⟩); try decreasing_trivial) | ((with_reducible show sp_law_program _ _ _); (refine ⟨_, _, _, _, _, rfl, by assumption, by omega, by omega, fun pr a b u u0 u1 ri pne => ?_⟩); try decreasing_trivial) | ((with_reducible show sp_bodies_in _ _ _); (first | refine ⟨.set _ _ _, rfl, ?_⟩ | refine ⟨.tell _ _, rfl, ?_⟩ | refine ⟨.ifr _ _ _ _, rfl, ?_⟩ | (refine ⟨.whl _ _ _, by exact rfl, ?_⟩) | refine ⟨.tms _ _ _, rfl, ?_⟩ | refine ⟨_, rfl, ?_⟩); try decreasing_trivial) | ((with_reducible show sp_law_bodies _ _ _); (first | refine ⟨.set _ _ _, rfl, ?_⟩ | refine ⟨.tell _ _, rfl, ?_⟩ | refine ⟨.ifr _ _ _ _, rfl, ?_⟩ | (refine ⟨.whl _ _ _, by exact rfl, ?_⟩) | refine ⟨.tms _ _ _, rfl, ?_⟩ | refine ⟨_, rfl, ?_⟩); try decreasing_trivial) | ((with_reducible show sp_rows _ _ _ _); (refine ⟨_, rfl, by omega, by omega, ?_⟩); try decreasing_trivial) | ((with_reducible show sp_marks _ _ _ _); (refine ⟨_, rfl, by omega, by omega, ?_⟩); try decreasing_trivial) | ((with_reducible show sp_way_to _ _ _ _); (refine ⟨_, _, rfl, by omega, by omega, ?_⟩; (try simp only [ha]); (try simp only [hb])); try decreasing_trivial) | ((with_reducible show sp_spot _ _ _ _); (refine ⟨_, _, _, rfl, by assumption, by omega, by omega, ?_⟩; (try rw [esp])); try decreasing_trivial) | ((with_reducible show sp_loops _ _ _ _); (refine ⟨_, _, _, rfl, by assumption, by omega, by omega, ?_⟩); try decreasing_trivial) | ((with_reducible show sp_need_text er _ _ _); (refine ⟨_, _, rfl, fun q => ?_, fun q => ?_⟩); try decreasing_trivial) | ((with_reducible show sp_is_name _ _ _); (refine ⟨_, rfl, by omega, ?_⟩); try decreasing_trivial) | ((with_reducible show sp_is_number _ _ _); (refine ⟨_, rfl, by omega, ?_⟩); try decreasing_trivial) | ((with_reducible show sp_leaf_of er _ _ _); (refine ⟨_, _, _, rfl, by first | omega | (simp only [mkS_len]; omega), by first | exact mkS_l _ | rfl, fun t ht => ?_, fun ht => ?_⟩); try decreasing_trivial) | ((with_reducible show sp_term_at er _ _ _ _); (refine ⟨_, _, _, _, rfl, by omega, by omega, by omega, by first | assumption | rfl, by omega, fun t l ht => ?_, fun ht => ?_⟩); try decreasing_trivial) | ((with_reducible show sp_whole_term er _ _ _); (refine ⟨_, _, rfl, by omega, by omega, fun t ht => ?_, fun ht => ?_⟩); try decreasing_trivial) | ((with_reducible show sp_read_term er _ _ _); (refine ⟨_, rfl, by omega, by omega, fun t ht => ?_, fun ht => ?_⟩); try decreasing_trivial) | ((with_reducible show sp_term_text _ _ _ _); (refine ⟨_, rfl, by first | assumption | omega, by assumption, by omega, ?_⟩); try decreasing_trivial) | ((with_reducible show sp_law_term_text _ _ _ _); (refine ⟨_, rfl, by first | assumption | omega, by assumption, by omega, ?_⟩); try decreasing_trivial) | ((with_reducible show sp_law_kept _ _ _); (refine ⟨rfl, ?_⟩); try decreasing_trivial) | ((with_reducible show sp_law_word _ _ _); (refine ⟨_, _, rfl, fun wd a b wx => ?_⟩); try decreasing_trivial) | ((with_reducible show sp_law_any_term _ _ _ _); (first | refine ⟨_, _, _, _, _, rfl, by assumption, by assumption, by omega, by omega, by omega, by omega, fun t a b t1 t2 t3 => ?_⟩ | refine ⟨_, _, [_, _], _, _, rfl, by decide, by decide, by omega, by omega, by omega, by omega, fun t a b t1 t2 t3 => ?_⟩ | refine ⟨_, _, _, _, _, rfl, by assumption, by assumption, by omega, by omega, by omega, by omega, fun t a b t1 t2 t3 => ?_⟩ | refine ⟨_, _, _, _, _, rfl, by omega, by omega, by omega, by omega, by omega, by omega, fun t a b t1 t2 t3 => ?_⟩); try decreasing_trivial) | ((with_reducible show sp_law_alike _ _ _ _); (refine ⟨_, _, rfl, by assumption, by omega, ?_⟩); try decreasing_trivial) | ((with_reducible refine px_0 ?sd ?_); (case sd => (first | omega | (simp only [List.length_map, List.length_append, List.length_cons, List.length_nil, List.length_set, List.length_take, List.length_drop, List.length_range, List.length_reverse]; omega))); try decreasing_trivial) | ((with_reducible refine px_1 ?sd ?_); (case sd => (first | omega | (simp only [List.length_map, List.length_append, List.length_cons, List.length_nil, List.length_set, List.length_take, List.length_drop, List.length_range, List.length_reverse]; omega))); try decreasing_trivial) | ((with_reducible refine px_2 ?sd ?_); (case sd => (first | omega | (simp only [List.length_map, List.length_append, List.length_cons, List.length_nil, List.length_set, List.length_take, List.length_drop, List.length_range, List.length_reverse]; omega))); try decreasing_trivial) | ((with_reducible refine px_3 ?sd ?_); (case sd => (first | omega | (simp only [List.length_map, List.length_append, List.length_cons, List.length_nil, List.length_set, List.length_take, List.length_drop, List.length_range, List.length_reverse]; omega))); try decreasing_trivial) | ((with_reducible refine px_m1 ?sd ?_); (case sd => (first | omega | (simp only [List.length_map, List.length_append, List.length_cons, List.length_nil, List.length_set, List.length_take, List.length_drop, List.length_range, List.length_reverse]; omega))); try decreasing_trivial) | ((with_reducible refine px_i ?s1 ?s2 ?_); (case s1 => (first | omega | (simp only [List.length_map, List.length_append, List.length_cons, List.length_nil, List.length_set, List.length_take, List.length_drop, List.length_range, List.length_reverse]; omega))); (case s2 => (first | omega | (simp only [List.length_map, List.length_append, List.length_cons, List.length_nil, List.length_set, List.length_take, List.length_drop, List.length_range, List.length_reverse]; omega))); try decreasing_trivial) | ((with_reducible refine' ix_0 ?sd ?_); (case sd => exact rfl); try decreasing_trivial) | ((with_reducible refine' ix_1 ?sd ?_); (case sd => exact rfl); try decreasing_trivial) | ((with_reducible refine' ix_2 ?sd ?_); (case sd => exact rfl); try decreasing_trivial) | ((with_reducible refine' ix_3 ?sd ?_); (case sd => exact rfl); try decreasing_trivial) | ((with_reducible refine' ix_4 ?sd ?_); (case sd => exact rfl); try decreasing_trivial) | ((with_reducible refine' ix_5 ?sd ?_); (case sd => exact rfl); try decreasing_trivial) | ((with_reducible refine' ix_m1 ?sd ?_); (case sd => exact rfl); try decreasing_trivial) | ((with_reducible refine' ix_m2 ?sd ?_); (case sd => exact rfl); try decreasing_trivial) | (((rw [rqa])); try decreasing_trivial) | (((rw [rqb])); try decreasing_trivial) | (((rw [ewn])); try decreasing_trivial) | (((with_reducible refine' Exists.intro _ (And.intro rea ?_))); try decreasing_trivial) | (((with_reducible refine ix_am1 ?_)); try decreasing_trivial) | (((with_reducible refine ix_am2 ?_)); try decreasing_trivial) | ((((with_reducible refine ix_map ?s1 ?s2 (fun x mx me => ?_)); (case s1 => (first | omega | (simp only [List.length_map]; omega) | (simp only [List.length_map]; exact Int.emod_nonneg _ (by omega)) | (simp only [List.length_map]; exact Int.emod_lt_of_pos _ (by omega)))); (case s2 => (first | omega | (simp only [List.length_map]; omega) | (simp only [List.length_map]; exact Int.emod_nonneg _ (by omega)) | (simp only [List.length_map]; exact Int.emod_lt_of_pos _ (by omega)))))); try decreasing_trivial) | ((((with_reducible refine ix_lett ?s1 ?s2 ?_); (case s1 => omega); (case s2 => omega))); try decreasing_trivial) | ((((with_reducible refine ix_sgnM (m := 6) ?s0 ?s1 ?s2 (fun v mv => ?_)); (case s0 => decide +kernel); (case s1 => omega); (case s2 => omega))); try decreasing_trivial) | ((((with_reducible refine ix_sgnM (m := 7) ?s0 ?s1 ?s2 (fun v mv => ?_)); (case s0 => decide +kernel); (case s1 => omega); (case s2 => omega))); try decreasing_trivial) | ((((with_reducible refine ix_i2 ?s1 ?s2 (fun v vi => ?_)); (case s1 => omega); (case s2 => omega))); try decreasing_trivial) | ((((with_reducible refine ix_i3 ?s1 ?s2 (fun v vi => ?_)); (case s1 => omega); (case s2 => omega))); try decreasing_trivial) | ((((with_reducible refine ix_i6 ?s1 ?s2 (fun v vi => ?_)); (case s1 => omega); (case s2 => omega))); try decreasing_trivial) | ((((with_reducible refine ix_cons ?s1 (fun ei => ?_) (fun ei => ?_)); (case s1 => omega))); try decreasing_trivial) | ((((with_reducible refine ix_nil ?s1); (case s1 => omega))); try decreasing_trivial) | ((((with_reducible refine ix_let2 ?s1 ?s2 ?_); (case s1 => omega); (case s2 => omega))); try decreasing_trivial) | ((with_reducible refine' Exists.intro _ (And.intro ?sd ?_)); (case sd => exact rfl); try decreasing_trivial) | ((with_reducible refine iteB (fun c => ?_) (fun c => ?_)) <;> (try simp only [decide_eq_true_eq, decide_eq_false_iff_not, Bool.not_eq_true', Bool.not_eq_false', id, List.length_map, eqv_int, eqv_str, List.any_cons, List.any_nil, Bool.or_eq_true, Bool.or_false, Bool.or_eq_false_iff] at c) <;> (try exact absurd c (by assumption)) <;> (try exact absurd (by assumption) c) <;> (try exact absurd c (by decide +kernel)) <;> (try exact absurd (c.symm.trans (show _ = true by assumption)) (by decide)) <;> (try exact absurd (c.symm.trans (show _ = false by assumption)) (by decide)) <;> (try decreasing_trivial)) | ((with_reducible refine' Exists.intro _ (And.intro kit_bb ?_)); try decreasing_trivial) | ((with_reducible refine' Exists.intro _ (And.intro kit_ll ?_)); try decreasing_trivial) | ((with_reducible refine' Exists.intro _ (And.intro kit_tt ?_)); try decreasing_trivial) | ((with_reducible refine' Exists.intro _ (And.intro kit_dd ?_)); try decreasing_trivial) | ((with_reducible refine' Exists.intro _ (And.intro kit_ii ?_)); try decreasing_trivial) | ((with_reducible refine' Exists.intro _ (And.intro kit_ss ?_)); try decreasing_trivial) | ((with_reducible refine' Exists.intro _ (And.intro kit_ib ?_)); try decreasing_trivial) | ((with_reducible refine' Exists.intro _ (And.intro kit_bi ?_)); try decreasing_trivial) | ((with_reducible refine dv_hit ?sd ?_); (case sd => first | exact rfl | decide +kernel); try decreasing_trivial) | ((with_reducible refine dv_miss ?sd ?_); (case sd => decide +kernel); try decreasing_trivial) | ((first | rw [inx_set] | rw [inx_tell] | rw [inx_ifr] | rw [inx_whl] | rw [inx_tms]); try decreasing_trivial) | ((first | rw [cut_lo1] | rw [cut_hi1] | rw [cut_lo2] | rw [cut_hi2] | rw [cut_lo3] | rw [cut_hi3] | rw [cut_lo4] | rw [cut_hi4] | rw [cut_lo5] | rw [cut_hi5] | rw [cut_lo6] | rw [cut_hi6]); try decreasing_trivial))))
section
variable {P : Program} {w : World} {K : PySem.W.Frag} {mg : Str → Option Value} {base : Heap} {fa : Addr} {fd : FuncData}
abbrev s_law_alike : Stmt := top 28
abbrev n_law_alike : List Str := ["_law_found", "_law_due", "_law_one", "_law_other"]
theorem sc_law_alike : FnScope n_law_alike ["_law_found", "_law_due"] (defScope s_law_alike) := ⟨rfl, rfl, rfl, by decide +kernel, rfl, by decide +kernel, by decide +kernel⟩
theorem ok_law_alike {n : Nat} (F : Fun K "_law_alike" "_law_alike" s_law_alike fa fd) (c_law_alike : DefOk P w K mg base "_law_alike" n ["_law_found", "_law_due"] [] (sp_law_alike n)) (z_isinstance : mg "isinstance" = none) (z_bool : mg "bool" = none) (z_int : mg "int" = none) (z_str : mg "str" = none) (z_tuple : mg "tuple" = none) (z_all : mg "all" = none) (z_zip : mg "zip" = none) (z_len : mg "len" = none) :
    FnV P w K mg base (n + 1) fa fd ["_law_found", "_law_due"] [] (sp_law_alike (n + 1)) := by
  refine FnV.of F sc_law_alike (fun os k kx h => by obtain ⟨d, m, rfl, _⟩ := h; rfl) fun cdv A outer s H E hg hr => ⟨_, _, (js_cons (js_if (jt_val (je_isi "tuple" (je_var 1) rfl z_isinstance rfl z_tuple (by decide +kernel))) (js_cons (js_if (JW.t (jw_or (jt_not (jt_val (je_isi "tuple" (je_var 0) rfl z_isinstance rfl z_tuple (by decide +kernel)))) (jw_or1 (jt_cmp (op_neX hr.units) ok_ne (nomark _) (je_B call_lenX ok_lenX rfl z_len PySem.boot_len (ja_cons (je_var 0) ja_nil)) (je_B call_lenX ok_lenX rfl z_len PySem.boot_len (ja_cons (je_var 1) ja_nil)))))) (js_one (js_ret je_bl)) js_nil)
      (js_one (js_ret (je_B (cr_all rfl) ok_all rfl z_all (by decide +kernel) (ja_cons (je_lc (B0 := [0, 1]) (own := [("_law_one", 2), ("_law_other", 3)]) (show ∀ j, j < 4 → j ∉ ([2, 3] : List Nat) → j ∈ ([0, 1] : List Nat) by decide) rfl sc_law_alike.nd (ji_zip rfl z_zip (ja_cons (je_var 0) (ja_cons (je_var 1) ja_nil))) (blkOk_by (own := [("_law_one", 2), ("_law_other", 3)]) (N := n_law_alike) (sc := defScope s_law_alike) (by decide +kernel)) (fun _ _ _ _ _ => (jg_tup rfl (jgs_cons (i := 2) rfl sc_law_alike.nd rfl (Or.inl rfl) (jgs_cons (i := 3) rfl sc_law_alike.nd rfl (Or.inl rfl) jgs_nil)) rfl)) (fun _ _ _ _ _ => jts_nil) (fun _ _ _ _ _ => (je_call [] c_law_alike hg hr (by first | decide | exact Nat.le_refl _ | omega) takes0 rfl (ja_cons (je_var 2) (ja_cons (je_var 3) ja_nil))))) ja_nil))))) js_nil)
      (js_cons (js_if (jt_val (je_isi "str" (je_var 1) rfl z_isinstance rfl z_str (by decide +kernel))) (js_one (js_ret (je_and (je_isi "str" (je_var 0) rfl z_isinstance rfl z_str (by decide +kernel)) (je_one (je_cmp (op_eqX hr.units) ok_eq (nomark _) (je_var 0) (je_var 1)))))) js_nil)
      (js_one (js_ret (je_and (je_isi "int" (je_var 0) rfl z_isinstance rfl z_int (by decide +kernel)) (je_and (je_not (je_isi "bool" (je_var 0) rfl z_isinstance rfl z_bool (by decide +kernel))) (je_one (je_cmp (op_eqX hr.units) ok_eq (nomark _) (je_var 0) (je_var 1))))))))), fun os kk kx h => ?_⟩
  obtain ⟨d, m, rfl, al, hm, k⟩ := h
  cases al with
  | str _ x =>
    have k : kk (R.p (PyData.bool (decide (x = x)))) [O.p (PyData.str x), O.p (PyData.str x)] := by rw [decide_eq_true rfl]; exact k
    try dsimp only [n_law_alike, List.length_cons, List.length_nil, Nat.reduceAdd, Nat.reduceSub]
    try decreasing_trivial
    trivial
    all_goals first | exact k | trace_state
  | int _ i =>
    have k : kk (R.p (PyData.bool (decide (i = i)))) [O.p (PyData.int i), O.p (PyData.int i)] := by rw [decide_eq_true rfl]; exact k
    try dsimp only [n_law_alike, List.length_cons, List.length_nil, Nat.reduceAdd, Nat.reduceSub]
    try decreasing_trivial
    trivial
    all_goals first | exact k | trace_state
  | @tup m ds h1 h2 =>
    have hm2 : m < n := by omega
    try dsimp only [n_law_alike, List.length_cons, List.length_nil, Nat.reduceAdd, Nat.reduceSub]
    try decreasing_trivial
    trivial
    rw [zipD_self]
    refine lcW_maps (fun _ => .bool true) (small (by omega)) ?_ ?_
    · intro d md acc K hl hk
      have ad := h1 d md
      try dsimp only [n_law_alike, List.length_cons, List.length_nil, Nat.reduceAdd, Nat.reduceSub]
      try decreasing_trivial
      trivial
      exact hk
    ·
      try dsimp only [n_law_alike, List.length_cons, List.length_nil, Nat.reduceAdd, Nat.reduceSub]
      try decreasing_trivial
      trivial
      refine ⟨_, bls_map _, ?_⟩
      rw [all_true]
      exact k
end
end KR

namespace KR
open PySem PySem.Spec PyProof.Rows L2 VL
set_option hygiene false
local macro_rules | `(tactic| decreasing_trivial) => `(tactic| dsimp only [x_aNil, x_aCons, x_rOp, x_rOu, x_rVar, x_rC, x_rT, x_rTand, x_rTor, x_rTnot, x_rAnd, x_rOr, x_rNot, x_rIf, x_rOt, x_rNewD, x_rSlLU, x_rSlL, x_rSlU, x_rChain, x_sNil, x_sSeq, x_sBreak, x_sCont, x_sExpr, x_sRet, x_sRetN, x_sIf, x_sSet, x_rMv, x_rFz, x_rMt, x_rMr, x_sSetL, x_rCall, x_bName, x_bTup, x_rSeq, x_rRange1, x_rRange2, x_sFor, x_rLc, x_rYes, x_rIsi1, x_rM0, x_rM1, x_aLate, x_sPar, x_sAug, x_tt, x_ff, x_bNames0, x_bNames1, x_lcT, x_wipe0, x_wipe1, x_AN_of_nx, x_AN_of_rt, x_AN_of_ex, x_seq_nx, x_seq_rt, x_seq_bk, x_seq_ct, x_seq_ex, x_loop_nx, x_loop_rt, x_loop_bk, x_loop_ct, x_loop_ex, x_grd_p, x_grd_ow, x_grd_sl, x_grd_vw, x_vwO_p, x_vwO_ls, x_vwO_lo, x_vwO_dc, x_vwO_dco, x_vwO_ins, x_vwO_fl, x_datL0, x_datL1, x_dat_p, x_dat_sl, x_dat_vw, x_dat_ow, x_sh_p, x_sh_ls, x_sh_dc, x_datu_p, x_datu_ls, x_datu_dc, x_datu_fl, x_datu_vw, x_datu_ow, x_takes0, x_takes_p, x_takes_ow, x_map_some, x_frz_p, x_frz_ls, x_frz_dc, x_take1_p, x_take1_ow, x_own1_p, x_own1_ow, x_slots_p, x_slots_sl, x_slots_ow, x_vwp_sl, x_vwp_vw, x_toO_p, x_toO_sl, x_toO_ow, x_wb_sl, x_wb_p, x_wb_ow, x_wb0, x_wb00, x_seqM_list, x_seqM_tuple, x_seqM_str, x_isI, x_all, x_any, x_join_l, x_join_t, x_add_i, x_add_s, x_add_l, x_add_t, x_sub, x_mod, x_div, x_pow, x_mul_i, x_mul_s, x_neg, x_cmp, x_eq, x_eq_s, x_eq_i, x_eq_b, x_eq_n, x_eq_ns, x_eq_sn, x_eq_is, x_eq_si, x_eq_ll, x_eq_t2, x_isN_n, x_isN_i, x_isN_s, x_isN_l, x_isN_t, x_in_s, x_in_sl, x_in_il, x_in_tl, x_in_st, x_in_it, x_len_s, x_len_l, x_len_t, x_ix_l, x_ix_t, x_ix_s, x_tup, x_lst, x_sl_s, x_sl_l, x_sl_t, x_append, x_extend, x_max_i, x_max_l, x_min, x_int_i, x_int_b, x_listOf_l, x_listOf_t, x_tupOf_l, x_tupOf_t, x_repr_i, x_repr_l, x_repr_t, x_map0, x_map1, x_app0, x_app1, x_set0, x_setS, x_get0, x_getS, x_Tr_num, x_Tr_cel, x_Tr_inn, x_Tr_op, x_forW0, x_forW1, x_lcW0, x_lcW1, x_drop1, x_drop0, x_dropn, x_take1s, x_take0, x_taken, x_ty_l, x_ty_t, x_ty_i, x_ty_b, x_ty_s, x_ty_d, x_rDisp, x_rDispN, x_sSetD, x_rGet2, x_rEnum, x_ixX_ds, x_ixX_di, x_ixX_l, x_ixX_t, x_ixX_s, x_inX_ds, x_inX_di, x_inX_s, x_inX_sl, x_inX_il, x_inX_tl, x_inX_st, x_inX_it, x_lenX_d, x_lenX_s, x_lenX_l, x_lenX_t, x_mulY_t, x_mulY_i, x_mulY_s, x_kD_i, x_kD_s, x_kP_i, x_kP_s, x_zip1, x_zip0, x_mClear, x_mReverse, x_enum0, x_scene_map, x_scene_len, x_Row_set, x_Row_tell, x_Row_ifr, x_Row_whl, x_Row_tms, x_bod_set, x_bod_tell, x_bod_ifr, x_bod_whl, x_bod_tms, x_enum1, x_enum2, x_wayO_some, x_wayO_none, x_i01, x_i11, x_sRaise1, x_sRaise0, x_sTry, x_rIs, x_rFld, x_rIsTu, x_tr_nx, x_tr_rt, x_tr_bk, x_tr_ct, x_tr_ex, x_su_nx, x_su_rt, x_su_bk, x_su_ct, x_isB, x_rp, x_held0, x_heldS, x_sUnp, x_sUnl, x_rRm, x_cnt, x_idx, x_sidx, x_tyOk_l, x_tyOk_s, x_tyOk_d, x_nc0, x_nc1, x_nc2, x_nc3, x_nc4, x_nc5, x_nc6, x_nc7, x_nc8, x_nc9, x_rRev, x_rZip, x_rsl0, x_rsl1, x_intX_s, x_intX_i, x_intX_b, x_strX_s, x_strX_i, List.map_nil, List.map_cons, List.cons_append, List.nil_append, List.append_nil, List.replicate_succ, List.replicate_zero, List.length_cons, List.length_nil, List.contains, List.elem, Nat.reduceBEq, Nat.reduceAdd, Nat.reduceSub, List.all_nil, List.all_cons, Int.reduceNeg, Int.reduceSub, Int.reduceAdd, id])
local macro_rules | `(tactic| trivial) => `(tactic| repeat (any_goals (first | ((with_reducible refine And.intro ?sd ?_); (case sd => (first | exact rfl | omega | assumption | (simp only [List.length_map, List.length_append, List.length_cons, List.length_nil, List.length_set, List.length_take, List.length_drop, List.length_range, List.length_reverse]; omega) | exact small (by omega) | exact cut_le (by omega) | exact sl_add (by first | omega | decide +kernel | exact cut_le (by omega) | exact up_le (by omega) | exact up_le (cut_le (by omega)) | exact app_le (by exact up_le4 (cut_le (by omega))) (by exact cut_le (by omega)) | exact app_le (by decide) (by omega) | exact app_le (by first | omega | exact cut_le (by omega)) (by first | omega | exact cut_le (by omega))) (by first | omega | decide +kernel | exact cut_le (by omega) | exact up_le (by omega) | exact up_le (cut_le (by omega)) | exact app_le (by exact up_le4 (cut_le (by omega))) (by exact cut_le (by omega)) | exact app_le (by decide) (by omega) | exact app_le (by first | omega | exact cut_le (by omega)) (by first | omega | exact cut_le (by omega))) | exact ⟨by omega, by omega⟩ | exact Or.inr ⟨by decide, by decide⟩ | exact Or.inl ⟨by omega, by omega⟩ | exact Or.inl ⟨by decide, by decide⟩ | exact ⟨by decide, by decide, by decide⟩ | exact small (by simp only [List.length_map, List.length_append, List.length_cons, List.length_nil, List.length_set, List.length_take, List.length_drop, List.length_range, List.length_reverse]; omega) | exact log_ok (by omega) (by omega) | (split <;> omega) | exact small (by rw [rowsD_len]; have := RowsIn.rlen (by assumption); omega) | exact small (by simp only [List.length_append, List.length_cons, List.length_nil, rowsD_len]; omega) | exact Nat.lt_of_lt_of_le (by simp only [List.length_append, List.length_cons, List.length_nil, rowsD_len, List.length_map]; omega : _ < 100000) (by decide) | rfl | decide))) | ((with_reducible refine' Exists.intro _ (And.intro put_scene ?_)); try decreasing_trivial) | ((with_reducible show sp_law_take _ _ _); (first | refine ⟨_, _, _, rfl, by decide, by decide, fun r a b r0 r1 => ?_⟩ | refine ⟨_, _, _, rfl, by omega, by omega, fun r a b r0 r1 => ?_⟩ | (refine ⟨_, _, _, rfl, by simp only [List.length_map]; omega, by simp only [List.length_map]; omega, fun r a b r0 r1 => ?_⟩; simp only [List.length_map] at r1)); try decreasing_trivial) | ((with_reducible show sp_law_feed _ _ _); (refine ⟨_, _, rfl, by omega, by omega, by omega, fun fa fb => ?_⟩); try decreasing_trivial) | ((with_reducible show sp_parts _ _ _ _); (refine ⟨_, rfl, by assumption, by assumption, ?_⟩); try decreasing_trivial) | ((with_reducible show sp_deep _ _ _ _); (refine ⟨_, rfl, by assumption, ?_⟩); try decreasing_trivial) | ((with_reducible show sp_cells _ _ _ _); (refine ⟨_, rfl, by assumption, by assumption, ?_⟩); try decreasing_trivial) | ((with_reducible show sp_law_number _ _ _); (refine ⟨_, _, rfl, fun nv a b n0 n1 => ?_⟩); try decreasing_trivial) | ((with_reducible show sp_law_names _ _ _); (refine ⟨_, _, _, rfl, by omega, by omega, fun ws a b wl wn => ?_⟩); try decreasing_trivial) | ((with_reducible show sp_law_scene _ _ _); (refine ⟨_, _, rfl, fun cs ms a b sc => ?_⟩); try decreasing_trivial) | ((with_reducible show sp_law_mark _ _ _); (refine ⟨_, _, _, rfl, by omega, by omega, by omega, fun m me => ?_⟩); try decreasing_trivial) | ((with_reducible show sp_law_term _ _ _ _); (refine ⟨_, _, _, _, _, _, _, rfl, by omega, by omega, by omega, by omega, by omega, by omega, fun t a b t1 t2 t3 => ?_⟩); try decreasing_trivial) | ((with_reducible show sp_law_row _ _ _ _); (refine ⟨_, _, _, _, _, _, _, rfl, by assumption, by omega, by omega, by omega, by omega, by omega, fun rw a b u l l0 ul ri uu => ?_⟩); try decreasing_trivial) | ((with_reducible show sp_law_body _ _ _ _); (refine ⟨_, _, _, _, _, _, _, rfl, by assumption, by omega, by omega, by omega, by omega, by omega, fun bd a b u l l0 ul ri uu une => ?_⟩); try decreasing_trivial) | ((with_reducible show sp_law_program _ _ _); (refine ⟨_, _, _, _, _, rfl, by assumption, by omega, by omega, fun pr a b u u0 u1 ri pne => ?_⟩); try decreasing_trivial) | ((with_reducible show sp_bodies_in _ _ _); (first | refine ⟨.set _ _ _, rfl, ?_⟩ | refine ⟨.tell _ _, rfl, ?_⟩ | refine ⟨.ifr _ _ _ _, rfl, ?_⟩ | (refine ⟨.whl _ _ _, by exact rfl, ?_⟩) | refine ⟨.tms _ _ _, rfl, ?_⟩ | refine ⟨_, rfl, ?_⟩); try decreasing_trivial) | ((with_reducible show sp_law_bodies _ _ _); (first | refine ⟨.set _ _ _, rfl, ?_⟩ | refine ⟨.tell _ _, rfl, ?_⟩ | refine ⟨.ifr _ _ _ _, rfl, ?_⟩ | (refine ⟨.whl _ _ _, by exact rfl, ?_⟩) | refine ⟨.tms _ _ _, rfl, ?_⟩ | refine ⟨_, rfl, ?_⟩); try decreasing_trivial) | ((with_reducible show sp_rows _ _ _ _); (refine ⟨_, rfl, by omega, by omega, ?_⟩); try decreasing_trivial) | ((with_reducible show sp_marks _ _ _ _); (refine ⟨_, rfl, by omega, by omega, ?_⟩); try decreasing_trivial) | ((with_reducible show sp_way_to _ _ _ _); (refine ⟨_, _, rfl, by omega, by omega, ?_⟩; (try simp only [ha]); (try simp only [hb])); try decreasing_trivial) | ((with_reducible show sp_spot _ _ _ _); (refine ⟨_, _, _, rfl, by assumption, by omega, by omega, ?_⟩; (try rw [esp])); try decreasing_trivial) | ((with_reducible show sp_loops _ _ _ _); (refine ⟨_, _, _, rfl, by assumption, by omega, by omega, ?_⟩); try decreasing_trivial) | ((with_reducible show sp_need_text er _ _ _); (refine ⟨_, _, rfl, fun q => ?_, fun q => ?_⟩); try decreasing_trivial) | ((with_reducible show sp_is_name _ _ _); (refine ⟨_, rfl, by omega, ?_⟩); try decreasing_trivial) | ((with_reducible show sp_is_number _ _ _); (refine ⟨_, rfl, by omega, ?_⟩); try decreasing_trivial) | ((with_reducible show sp_leaf_of er _ _ _); (refine ⟨_, _, _, rfl, by first | omega | (simp only [mkS_len]; omega), by first | exact mkS_l _ | rfl, fun t ht => ?_, fun ht => ?_⟩); try decreasing_trivial) | ((with_reducible show sp_term_at er _ _ _ _); (refine ⟨_, _, _, _, rfl, by omega, by omega, by omega, by first | assumption | rfl, by omega, fun t l ht => ?_, fun ht => ?_⟩); try decreasing_trivial) | ((with_reducible show sp_whole_term er _ _ _); (refine ⟨_, _, rfl, by omega, by omega, fun t ht => ?_, fun ht => ?_⟩); try decreasing_trivial) | ((with_reducible show sp_read_term er _ _ _); (refine ⟨_, rfl, by omega, by omega, fun t ht => ?_, fun ht => ?_⟩); try decreasing_trivial) | ((with_reducible show sp_term_text _ _ _ _); (refine ⟨_, rfl, by first | assumption | omega, by assumption, by omega, ?_⟩); try decreasing_trivial) | ((with_reducible show sp_law_term_text _ _ _ _); (refine ⟨_, rfl, by first | assumption | omega, by assumption, by omega, ?_⟩); try decreasing_trivial) | ((with_reducible show sp_law_kept _ _ _); (refine ⟨rfl, ?_⟩); try decreasing_trivial) | ((with_reducible show sp_law_word _ _ _); (refine ⟨_, _, rfl, fun wd a b wx => ?_⟩); try decreasing_trivial) | ((with_reducible show sp_law_any_term _ _ _ _); (first | refine ⟨_, _, _, _, _, rfl, by assumption, by assumption, by omega, by omega, by omega, by omega, fun t a b t1 t2 t3 => ?_⟩ | refine ⟨_, _, [_, _], _, _, rfl, by decide, by decide, by omega, by omega, by omega, by omega, fun t a b t1 t2 t3 => ?_⟩ | refine ⟨_, _, _, _, _, rfl, by assumption, by assumption, by omega, by omega, by omega, by omega, fun t a b t1 t2 t3 => ?_⟩ | refine ⟨_, _, _, _, _, rfl, by omega, by omega, by omega, by omega, by omega, by omega, fun t a b t1 t2 t3 => ?_⟩); try decreasing_trivial) | ((with_reducible show sp_law_alike _ _ _ _); (refine ⟨_, _, rfl, by assumption, by omega, ?_⟩); try decreasing_trivial) | ((with_reducible refine px_0 ?sd ?_); (case sd => (first | omega | (simp only [List.length_map, List.length_append, List.length_cons, List.length_nil, List.length_set, List.length_take, List.length_drop, List.length_range, List.length_reverse]; omega))); try decreasing_trivial) | ((with_reducible refine px_1 ?sd ?_); (case sd => (first | omega | (simp only [List.length_map, List.length_append, List.length_cons, List.length_nil, List.length_set, List.length_take, List.length_drop, List.length_range, List.length_reverse]; omega))); try decreasing_trivial) | ((with_reducible refine px_2 ?sd ?_); (case sd => (first | omega | (simp only [List.length_map, List.length_append, List.length_cons, List.length_nil, List.length_set, List.length_take, List.length_drop, List.length_range, List.length_reverse]; omega))); try decreasing_trivial) | ((with_reducible refine px_3 ?sd ?_); (case sd => (first | omega | (simp only [List.length_map, List.length_append, List.length_cons, List.length_nil, List.length_set, List.length_take, List.length_drop, List.length_range, List.length_reverse]; omega))); try decreasing_trivial) | ((with_reducible refine px_m1 ?sd ?_); (case sd => (first | omega | (simp only [List.length_map, List.length_append, List.length_cons, List.length_nil, List.length_set, List.length_take, List.length_drop, List.length_range, List.length_reverse]; omega))); try decreasing_trivial) | ((with_reducible refine px_i ?s1 ?s2 ?_); (case s1 => (first | omega | (simp only [List.length_map, List.length_append, List.length_cons, List.length_nil, List.length_set, List.length_take, List.length_drop, List.length_range, List.length_reverse]; omega))); (case s2 => (first | omega | (simp only [List.length_map, List.length_append, List.length_cons, List.length_nil, List.length_set, List.length_take, List.length_drop, List.length_range, List.length_reverse]; omega))); try decreasing_trivial) | ((with_reducible refine' ix_0 ?sd ?_); (case sd => exact rfl); try decreasing_trivial) | ((with_reducible refine' ix_1 ?sd ?_); (case sd => exact rfl); try decreasing_trivial) | ((with_reducible refine' ix_2 ?sd ?_); (case sd => exact rfl); try decreasing_trivial) | ((with_reducible refine' ix_3 ?sd ?_); (case sd => exact rfl); try decreasing_trivial) | ((with_reducible refine' ix_4 ?sd ?_); (case sd => exact rfl); try decreasing_trivial) | ((with_reducible refine' ix_5 ?sd ?_); (case sd => exact rfl); try decreasing_trivial) | ((with_reducible refine' ix_m1 ?sd ?_); (case sd => exact rfl); try decreasing_trivial) | ((with_reducible refine' ix_m2 ?sd ?_); (case sd => exact rfl); try decreasing_trivial) | (((rw [rqa])); try decreasing_trivial) | (((rw [rqb])); try decreasing_trivial) | (((rw [ewn])); try decreasing_trivial) | (((with_reducible refine' Exists.intro _ (And.intro rea ?_))); try decreasing_trivial) | (((with_reducible refine ix_am1 ?_)); try decreasing_trivial) | (((with_reducible refine ix_am2 ?_)); try decreasing_trivial) | ((((with_reducible refine ix_map ?s1 ?s2 (fun x mx me => ?_)); (case s1 => (first | omega | (simp only [List.length_map]; omega) | (simp only [List.length_map]; exact Int.emod_nonneg _ (by omega)) | (simp only [List.length_map]; exact Int.emod_lt_of_pos _ (by omega)))); (case s2 => (first | omega | (simp only [List.length_map]; omega) | (simp only [List.length_map]; exact Int.emod_nonneg _ (by omega)) | (simp only [List.length_map]; exact Int.emod_lt_of_pos _ (by omega)))))); try decreasing_trivial) | ((((with_reducible refine ix_lett ?s1 ?s2 ?_); (case s1 => omega); (case s2 => omega))); try decreasing_trivial) | ((((with_reducible refine ix_sgnM (m := 6) ?s0 ?s1 ?s2 (fun v mv => ?_)); (case s0 => decide +kernel); (case s1 => omega); (case s2 => omega))); try decreasing_trivial) | ((((with_reducible refine ix_sgnM (m := 7) ?s0 ?s1 ?s2 (fun v mv => ?_)); (case s0 => decide +kernel); (case s1 => omega); (case s2 => omega))); try decreasing_trivial) | ((((with_reducible refine ix_i2 ?s1 ?s2 (fun v vi => ?_)); (case s1 => omega); (case s2 => omega))); try decreasing_trivial) | ((((with_reducible refine ix_i3 ?s1 ?s2 (fun v vi => ?_)); (case s1 => omega); (case s2 => omega))); try decreasing_trivial) | ((((with_reducible refine ix_i6 ?s1 ?s2 (fun v vi => ?_)); (case s1 => omega); (case s2 => omega))); try decreasing_trivial) | ((((with_reducible refine ix_cons ?s1 (fun ei => ?_) (fun ei => ?_)); (case s1 => omega))); try decreasing_trivial) | ((((with_reducible refine ix_nil ?s1); (case s1 => omega))); try decreasing_trivial) | ((((with_reducible refine ix_let2 ?s1 ?s2 ?_); (case s1 => omega); (case s2 => omega))); try decreasing_trivial) | ((with_reducible refine' Exists.intro _ (And.intro ?sd ?_)); (case sd => exact rfl); try decreasing_trivial) | ((with_reducible refine iteB (fun c => ?_) (fun c => ?_)) <;> (try simp only [decide_eq_true_eq, decide_eq_false_iff_not, Bool.not_eq_true', Bool.not_eq_false', id, List.length_map, eqv_int, eqv_str, List.any_cons, List.any_nil, Bool.or_eq_true, Bool.or_false, Bool.or_eq_false_iff] at c) <;> (try exact absurd c (by assumption)) <;> (try exact absurd (by assumption) c) <;> (try exact absurd c (by decide +kernel)) <;> (try exact absurd (c.symm.trans (show _ = true by assumption)) (by decide)) <;> (try exact absurd (c.symm.trans (show _ = false by assumption)) (by decide)) <;> (try decreasing_trivial)) | ((with_reducible refine' Exists.intro _ (And.intro kit_bb ?_)); try decreasing_trivial) | ((with_reducible refine' Exists.intro _ (And.intro kit_ll ?_)); try decreasing_trivial) | ((with_reducible refine' Exists.intro _ (And.intro kit_tt ?_)); try decreasing_trivial) | ((with_reducible refine' Exists.intro _ (And.intro kit_dd ?_)); try decreasing_trivial) | ((with_reducible refine' Exists.intro _ (And.intro kit_ii ?_)); try decreasing_trivial) | ((with_reducible refine' Exists.intro _ (And.intro kit_ss ?_)); try decreasing_trivial) | ((with_reducible refine' Exists.intro _ (And.intro kit_ib ?_)); try decreasing_trivial) | ((with_reducible refine' Exists.intro _ (And.intro kit_bi ?_)); try decreasing_trivial) | ((with_reducible refine dv_hit ?sd ?_); (case sd => first | exact rfl | decide +kernel); try decreasing_trivial) | ((with_reducible refine dv_miss ?sd ?_); (case sd => decide +kernel); try decreasing_trivial) | ((first | rw [inx_set] | rw [inx_tell] | rw [inx_ifr] | rw [inx_whl] | rw [inx_tms]); try decreasing_trivial) | ((first | rw [cut_lo1] | rw [cut_hi1] | rw [cut_lo2] | rw [cut_hi2] | rw [cut_lo3] | rw [cut_hi3] | rw [cut_lo4] | rw [cut_hi4] | rw [cut_lo5] | rw [cut_hi5] | rw [cut_lo6] | rw [cut_hi6]); try decreasing_trivial))))
section
variable {P : Program} {w : World} {K : PySem.W.Frag} {mg : Str → Option Value} {base : Heap} {fa : Addr} {fd : FuncData}
abbrev s_law_number : Stmt := top 23
abbrev n_law_number : List Str := ["_law_feed_here", "_law_form"]
theorem sc_law_number : FnScope n_law_number ["_law_feed_here"] (defScope s_law_number) := ⟨rfl, rfl, rfl, by decide +kernel, rfl, by decide +kernel, by decide +kernel⟩
theorem ok_law_number (F : Fun K "_law_number" "_law_number" s_law_number fa fd) (c_law_take : DefOk P w K mg base "_law_take" 1 ["_law_feed_here", "_law_many"] [0] sp_law_take) :
    FnV P w K mg base 2 fa fd ["_law_feed_here"] [0] sp_law_number := by
  refine FnV.of F sc_law_number (fun os k kx h => by obtain ⟨a, b, rfl, _⟩ := h; rfl) fun cdv A outer s H E hg hr => ⟨_, _, (js_cons (js_set (i := 1) rfl sc_law_number.nd rfl (Or.inl rfl) (je_call [0] c_law_take hg hr (by first | decide | exact Nat.le_refl _ | omega) (takes_of rfl rfl rfl rfl) rfl (ja_cons (je_var 0) (ja_cons je_int ja_nil))))
      (js_cons (js_if (jt_cmp op_lt ok_cmpI (nomark _) (je_var 1) je_int) (js_one (js_ret (je_call [0] c_law_take hg hr (by first | decide | exact Nat.le_refl _ | omega) (takes_of rfl rfl rfl rfl) rfl (ja_cons (je_var 0) (ja_cons (je_ix (ix_X (u1 hr)) ok_ixX (je_lst (ja_cons je_int (ja_cons je_int (ja_cons je_int (ja_cons je_int (ja_cons je_int (ja_cons je_int ja_nil))))))) (je_var 1) (fun _ _ => rfl)) ja_nil))))) js_nil)
      (js_one (js_ret (je_ix (ix_X (u1 hr)) ok_ixX (je_lst (ja_cons (je_call [0] c_law_take hg hr (by first | decide | exact Nat.le_refl _ | omega) (takes_of rfl rfl rfl rfl) rfl (ja_cons (je_var 0) (ja_cons je_int ja_nil))) (ja_cons (je_bin op_sub ok_sub je_int (je_call [0] c_law_take hg hr (by first | decide | exact Nat.le_refl _ | omega) (takes_of rfl rfl rfl rfl) rfl (ja_cons (je_var 0) (ja_cons je_int ja_nil)))) ja_nil))) (je_bin op_sub ok_sub (je_var 1) je_int) (fun _ _ => rfl)))))), fun os kk kx h => ?_⟩
  obtain ⟨a, b, rfl, k⟩ := h
  try dsimp only [n_law_number, List.length_cons, List.length_nil, Nat.reduceAdd, Nat.reduceSub]
  try decreasing_trivial
  trivial
  all_goals exact k _ _ _ (by omega) (by omega)
end
end KR

namespace KR
open PySem PySem.Spec PyProof.Rows L2 VL
set_option hygiene false
local macro_rules | `(tactic| decreasing_trivial) => `(tactic| dsimp only [x_aNil, x_aCons, x_rOp, x_rOu, x_rVar, x_rC, x_rT, x_rTand, x_rTor, x_rTnot, x_rAnd, x_rOr, x_rNot, x_rIf, x_rOt, x_rNewD, x_rSlLU, x_rSlL, x_rSlU, x_rChain, x_sNil, x_sSeq, x_sBreak, x_sCont, x_sExpr, x_sRet, x_sRetN, x_sIf, x_sSet, x_rMv, x_rFz, x_rMt, x_rMr, x_sSetL, x_rCall, x_bName, x_bTup, x_rSeq, x_rRange1, x_rRange2, x_sFor, x_rLc, x_rYes, x_rIsi1, x_rM0, x_rM1, x_aLate, x_sPar, x_sAug, x_tt, x_ff, x_bNames0, x_bNames1, x_lcT, x_wipe0, x_wipe1, x_AN_of_nx, x_AN_of_rt, x_AN_of_ex, x_seq_nx, x_seq_rt, x_seq_bk, x_seq_ct, x_seq_ex, x_loop_nx, x_loop_rt, x_loop_bk, x_loop_ct, x_loop_ex, x_grd_p, x_grd_ow, x_grd_sl, x_grd_vw, x_vwO_p, x_vwO_ls, x_vwO_lo, x_vwO_dc, x_vwO_dco, x_vwO_ins, x_vwO_fl, x_datL0, x_datL1, x_dat_p, x_dat_sl, x_dat_vw, x_dat_ow, x_sh_p, x_sh_ls, x_sh_dc, x_datu_p, x_datu_ls, x_datu_dc, x_datu_fl, x_datu_vw, x_datu_ow, x_takes0, x_takes_p, x_takes_ow, x_map_some, x_frz_p, x_frz_ls, x_frz_dc, x_take1_p, x_take1_ow, x_own1_p, x_own1_ow, x_slots_p, x_slots_sl, x_slots_ow, x_vwp_sl, x_vwp_vw, x_toO_p, x_toO_sl, x_toO_ow, x_wb_sl, x_wb_p, x_wb_ow, x_wb0, x_wb00, x_seqM_list, x_seqM_tuple, x_seqM_str, x_isI, x_all, x_any, x_join_l, x_join_t, x_add_i, x_add_s, x_add_l, x_add_t, x_sub, x_mod, x_div, x_pow, x_mul_i, x_mul_s, x_neg, x_cmp, x_eq, x_eq_s, x_eq_i, x_eq_b, x_eq_n, x_eq_ns, x_eq_sn, x_eq_is, x_eq_si, x_eq_ll, x_eq_t2, x_isN_n, x_isN_i, x_isN_s, x_isN_l, x_isN_t, x_in_s, x_in_sl, x_in_il, x_in_tl, x_in_st, x_in_it, x_len_s, x_len_l, x_len_t, x_ix_l, x_ix_t, x_ix_s, x_tup, x_lst, x_sl_s, x_sl_l, x_sl_t, x_append, x_extend, x_max_i, x_max_l, x_min, x_int_i, x_int_b, x_listOf_l, x_listOf_t, x_tupOf_l, x_tupOf_t, x_repr_i, x_repr_l, x_repr_t, x_map0, x_map1, x_app0, x_app1, x_set0, x_setS, x_get0, x_getS, x_Tr_num, x_Tr_cel, x_Tr_inn, x_Tr_op, x_forW0, x_forW1, x_lcW0, x_lcW1, x_drop1, x_drop0, x_dropn, x_take1s, x_take0, x_taken, x_ty_l, x_ty_t, x_ty_i, x_ty_b, x_ty_s, x_ty_d, x_rDisp, x_rDispN, x_sSetD, x_rGet2, x_rEnum, x_ixX_ds, x_ixX_di, x_ixX_l, x_ixX_t, x_ixX_s, x_inX_ds, x_inX_di, x_inX_s, x_inX_sl, x_inX_il, x_inX_tl, x_inX_st, x_inX_it, x_lenX_d, x_lenX_s, x_lenX_l, x_lenX_t, x_mulY_t, x_mulY_i, x_mulY_s, x_kD_i, x_kD_s, x_kP_i, x_kP_s, x_zip1, x_zip0, x_mClear, x_mReverse, x_enum0, x_scene_map, x_scene_len, x_Row_set, x_Row_tell, x_Row_ifr, x_Row_whl, x_Row_tms, x_bod_set, x_bod_tell, x_bod_ifr, x_bod_whl, x_bod_tms, x_enum1, x_enum2, x_wayO_some, x_wayO_none, x_i01, x_i11, x_sRaise1, x_sRaise0, x_sTry, x_rIs, x_rFld, x_rIsTu, x_tr_nx, x_tr_rt, x_tr_bk, x_tr_ct, x_tr_ex, x_su_nx, x_su_rt, x_su_bk, x_su_ct, x_isB, x_rp, x_held0, x_heldS, x_sUnp, x_sUnl, x_rRm, x_cnt, x_idx, x_sidx, x_tyOk_l, x_tyOk_s, x_tyOk_d, x_nc0, x_nc1, x_nc2, x_nc3, x_nc4, x_nc5, x_nc6, x_nc7, x_nc8, x_nc9, x_rRev, x_rZip, x_rsl0, x_rsl1, x_intX_s, x_intX_i, x_intX_b, x_strX_s, x_strX_i, List.map_nil, List.map_cons, List.cons_append, List.nil_append, List.append_nil, List.replicate_succ, List.replicate_zero, List.length_cons, List.length_nil, List.contains, List.elem, Nat.reduceBEq, Nat.reduceAdd, Nat.reduceSub, List.all_nil, List.all_cons, Int.reduceNeg, Int.reduceSub, Int.reduceAdd, id])
local macro_rules | `(tactic| trivial) => `(tactic| repeat (any_goals (first | ((with_reducible refine And.intro ?sd ?_); (case sd => (first | exact rfl | omega | assumption | (simp only [List.length_map, List.length_append, List.length_cons, List.length_nil, List.length_set, List.length_take, List.length_drop, List.length_range, List.length_reverse]; omega) | exact small (by omega) | exact cut_le (by omega) | exact sl_add (by first | omega | decide +kernel | exact cut_le (by omega) | exact up_le (by omega) | exact up_le (cut_le (by omega)) | exact app_le (by exact up_le4 (cut_le (by omega))) (by exact cut_le (by omega)) | exact app_le (by decide) (by omega) | exact app_le (by first | omega | exact cut_le (by omega)) (by first | omega | exact cut_le (by omega))) (by first | omega | decide +kernel | exact cut_le (by omega) | exact up_le (by omega) | exact up_le (cut_le (by omega)) | exact app_le (by exact up_le4 (cut_le (by omega))) (by exact cut_le (by omega)) | exact app_le (by decide) (by omega) | exact app_le (by first | omega | exact cut_le (by omega)) (by first | omega | exact cut_le (by omega))) | exact ⟨by omega, by omega⟩ | exact Or.inr ⟨by decide, by decide⟩ | exact Or.inl ⟨by omega, by omega⟩ | exact Or.inl ⟨by decide, by decide⟩ | exact ⟨by decide, by decide, by decide⟩ | exact small (by simp only [List.length_map, List.length_append, List.length_cons, List.length_nil, List.length_set, List.length_take, List.length_drop, List.length_range, List.length_reverse]; omega) | exact log_ok (by omega) (by omega) | (split <;> omega) | exact small (by rw [rowsD_len]; have := RowsIn.rlen (by assumption); omega) | exact small (by simp only [List.length_append, List.length_cons, List.length_nil, rowsD_len]; omega) | exact Nat.lt_of_lt_of_le (by simp only [List.length_append, List.length_cons, List.length_nil, rowsD_len, List.length_map]; omega : _ < 100000) (by decide) | rfl | decide))) | ((with_reducible refine' Exists.intro _ (And.intro put_scene ?_)); try decreasing_trivial) | ((with_reducible show sp_law_take _ _ _); (first | refine ⟨_, _, _, rfl, by decide, by decide, fun r a b r0 r1 => ?_⟩ | refine ⟨_, _, _, rfl, by omega, by omega, fun r a b r0 r1 => ?_⟩ | (refine ⟨_, _, _, rfl, by simp only [List.length_map]; omega, by simp only [List.length_map]; omega, fun r a b r0 r1 => ?_⟩; simp only [List.length_map] at r1)); try decreasing_trivial) | ((with_reducible show sp_law_feed _ _ _); (refine ⟨_, _, rfl, by omega, by omega, by omega, fun fa fb => ?_⟩); try decreasing_trivial) | ((with_reducible show sp_parts _ _ _ _); (refine ⟨_, rfl, by assumption, by assumption, ?_⟩); try decreasing_trivial) | ((with_reducible show sp_deep _ _ _ _); (refine ⟨_, rfl, by assumption, ?_⟩); try decreasing_trivial) | ((with_reducible show sp_cells _ _ _ _); (refine ⟨_, rfl, by assumption, by assumption, ?_⟩); try decreasing_trivial) | ((with_reducible show sp_law_number _ _ _); (refine ⟨_, _, rfl, fun nv a b n0 n1 => ?_⟩); try decreasing_trivial) | ((with_reducible show sp_law_names _ _ _); (refine ⟨_, _, _, rfl, by omega, by omega, fun ws a b wl wn => ?_⟩); try decreasing_trivial) | ((with_reducible show sp_law_scene _ _ _); (refine ⟨_, _, rfl, fun cs ms a b sc => ?_⟩); try decreasing_trivial) | ((with_reducible show sp_law_mark _ _ _); (refine ⟨_, _, _, rfl, by omega, by omega, by omega, fun m me => ?_⟩); try decreasing_trivial) | ((with_reducible show sp_law_term _ _ _ _); (refine ⟨_, _, _, _, _, _, _, rfl, by omega, by omega, by omega, by omega, by omega, by omega, fun t a b t1 t2 t3 => ?_⟩); try decreasing_trivial) | ((with_reducible show sp_law_row _ _ _ _); (refine ⟨_, _, _, _, _, _, _, rfl, by assumption, by omega, by omega, by omega, by omega, by omega, fun rw a b u l l0 ul ri uu => ?_⟩); try decreasing_trivial) | ((with_reducible show sp_law_body _ _ _ _); (refine ⟨_, _, _, _, _, _, _, rfl, by assumption, by omega, by omega, by omega, by omega, by omega, fun bd a b u l l0 ul ri uu une => ?_⟩); try decreasing_trivial) | ((with_reducible show sp_law_program _ _ _); (refine ⟨_, _, _, _, _, rfl, by assumption, by omega, by omega, fun pr a b u u0 u1 ri pne => ?_⟩); try decreasing_trivial) | ((with_reducible show sp_bodies_in _ _ _); (first | refine ⟨.set _ _ _, rfl, ?_⟩ | refine ⟨.tell _ _, rfl, ?_⟩ | refine ⟨.ifr _ _ _ _, rfl, ?_⟩ | (refine ⟨.whl _ _ _, by exact rfl, ?_⟩) | refine ⟨.tms _ _ _, rfl, ?_⟩ | refine ⟨_, rfl, ?_⟩); try decreasing_trivial) | ((with_reducible show sp_law_bodies _ _ _); (first | refine ⟨.set _ _ _, rfl, ?_⟩ | refine ⟨.tell _ _, rfl, ?_⟩ | refine ⟨.ifr _ _ _ _, rfl, ?_⟩ | (refine ⟨.whl _ _ _, by exact rfl, ?_⟩) | refine ⟨.tms _ _ _, rfl, ?_⟩ | refine ⟨_, rfl, ?_⟩); try decreasing_trivial) | ((with_reducible show sp_rows _ _ _ _); (refine ⟨_, rfl, by omega, by omega, ?_⟩); try decreasing_trivial) | ((with_reducible show sp_marks _ _ _ _); (refine ⟨_, rfl, by omega, by omega, ?_⟩); try decreasing_trivial) | ((with_reducible show sp_way_to _ _ _ _); (refine ⟨_, _, rfl, by omega, by omega, ?_⟩; (try simp only [ha]); (try simp only [hb])); try decreasing_trivial) | ((with_reducible show sp_spot _ _ _ _); (refine ⟨_, _, _, rfl, by assumption, by omega, by omega, ?_⟩; (try rw [esp])); try decreasing_trivial) | ((with_reducible show sp_loops _ _ _ _); (refine ⟨_, _, _, rfl, by assumption, by omega, by omega, ?_⟩); try decreasing_trivial) | ((with_reducible show sp_need_text er _ _ _); (refine ⟨_, _, rfl, fun q => ?_, fun q => ?_⟩); try decreasing_trivial) | ((with_reducible show sp_is_name _ _ _); (refine ⟨_, rfl, by omega, ?_⟩); try decreasing_trivial) | ((with_reducible show sp_is_number _ _ _); (refine ⟨_, rfl, by omega, ?_⟩); try decreasing_trivial) | ((with_reducible show sp_leaf_of er _ _ _); (refine ⟨_, _, _, rfl, by first | omega | (simp only [mkS_len]; omega), by first | exact mkS_l _ | rfl, fun t ht => ?_, fun ht => ?_⟩); try decreasing_trivial) | ((with_reducible show sp_term_at er _ _ _ _); (refine ⟨_, _, _, _, rfl, by omega, by omega, by omega, by first | assumption | rfl, by omega, fun t l ht => ?_, fun ht => ?_⟩); try decreasing_trivial) | ((with_reducible show sp_whole_term er _ _ _); (refine ⟨_, _, rfl, by omega, by omega, fun t ht => ?_, fun ht => ?_⟩); try decreasing_trivial) | ((with_reducible show sp_read_term er _ _ _); (refine ⟨_, rfl, by omega, by omega, fun t ht => ?_, fun ht => ?_⟩); try decreasing_trivial) | ((with_reducible show sp_term_text _ _ _ _); (refine ⟨_, rfl, by first | assumption | omega, by assumption, by omega, ?_⟩); try decreasing_trivial) | ((with_reducible show sp_law_term_text _ _ _ _); (refine ⟨_, rfl, by first | assumption | omega, by assumption, by omega, ?_⟩); try decreasing_trivial) | ((with_reducible show sp_law_kept _ _ _); (refine ⟨rfl, ?_⟩); try decreasing_trivial) | ((with_reducible show sp_law_word _ _ _); (refine ⟨_, _, rfl, fun wd a b wx => ?_⟩); try decreasing_trivial) | ((with_reducible show sp_law_any_term _ _ _ _); (first | refine ⟨_, _, _, _, _, rfl, by assumption, by assumption, by omega, by omega, by omega, by omega, fun t a b t1 t2 t3 => ?_⟩ | refine ⟨_, _, [_, _], _, _, rfl, by decide, by decide, by omega, by omega, by omega, by omega, fun t a b t1 t2 t3 => ?_⟩ | refine ⟨_, _, _, _, _, rfl, by assumption, by assumption, by omega, by omega, by omega, by omega, fun t a b t1 t2 t3 => ?_⟩ | refine ⟨_, _, _, _, _, rfl, by omega, by omega, by omega, by omega, by omega, by omega, fun t a b t1 t2 t3 => ?_⟩); try decreasing_trivial) | ((with_reducible show sp_law_alike _ _ _ _); (refine ⟨_, _, rfl, by assumption, by omega, ?_⟩); try decreasing_trivial) | ((with_reducible refine px_0 ?sd ?_); (case sd => (first | omega | (simp only [List.length_map, List.length_append, List.length_cons, List.length_nil, List.length_set, List.length_take, List.length_drop, List.length_range, List.length_reverse]; omega))); try decreasing_trivial) | ((with_reducible refine px_1 ?sd ?_); (case sd => (first | omega | (simp only [List.length_map, List.length_append, List.length_cons, List.length_nil, List.length_set, List.length_take, List.length_drop, List.length_range, List.length_reverse]; omega))); try decreasing_trivial) | ((with_reducible refine px_2 ?sd ?_); (case sd => (first | omega | (simp only [List.length_map, List.length_append, List.length_cons, List.length_nil, List.length_set, List.length_take, List.length_drop, List.length_range, List.length_reverse]; omega))); try decreasing_trivial) | ((with_reducible refine px_3 ?sd ?_); (case sd => (first | omega | (simp only [List.length_map, List.length_append, List.length_cons, List.length_nil, List.length_set, List.length_take, List.length_drop, List.length_range, List.length_reverse]; omega))); try decreasing_trivial) | ((with_reducible refine px_m1 ?sd ?_); (case sd => (first | omega | (simp only [List.length_map, List.length_append, List.length_cons, List.length_nil, List.length_set, List.length_take, List.length_drop, List.length_range, List.length_reverse]; omega))); try decreasing_trivial) | ((with_reducible refine px_i ?s1 ?s2 ?_); (case s1 => (first | omega | (simp only [List.length_map, List.length_append, List.length_cons, List.length_nil, List.length_set, List.length_take, List.length_drop, List.length_range, List.length_reverse]; omega))); (case s2 => (first | omega | (simp only [List.length_map, List.length_append, List.length_cons, List.length_nil, List.length_set, List.length_take, List.length_drop, List.length_range, List.length_reverse]; omega))); try decreasing_trivial) | ((with_reducible refine' ix_0 ?sd ?_); (case sd => exact rfl); try decreasing_trivial) | ((with_reducible refine' ix_1 ?sd ?_); (case sd => exact rfl); try decreasing_trivial) | ((with_reducible refine' ix_2 ?sd ?_); (case sd => exact rfl); try decreasing_trivial) | ((with_reducible refine' ix_3 ?sd ?_); (case sd => exact rfl); try decreasing_trivial) | ((with_reducible refine' ix_4 ?sd ?_); (case sd => exact rfl); try decreasing_trivial) | ((with_reducible refine' ix_5 ?sd ?_); (case sd => exact rfl); try decreasing_trivial) | ((with_reducible refine' ix_m1 ?sd ?_); (case sd => exact rfl); try decreasing_trivial) | ((with_reducible refine' ix_m2 ?sd ?_); (case sd => exact rfl); try decreasing_trivial) | (((rw [rqa])); try decreasing_trivial) | (((rw [rqb])); try decreasing_trivial) | (((rw [ewn])); try decreasing_trivial) | (((with_reducible refine' Exists.intro _ (And.intro rea ?_))); try decreasing_trivial) | (((with_reducible refine ix_am1 ?_)); try decreasing_trivial) | (((with_reducible refine ix_am2 ?_)); try decreasing_trivial) | ((((with_reducible refine ix_map ?s1 ?s2 (fun x mx me => ?_)); (case s1 => (first | omega | (simp only [List.length_map]; omega) | (simp only [List.length_map]; exact Int.emod_nonneg _ (by omega)) | (simp only [List.length_map]; exact Int.emod_lt_of_pos _ (by omega)))); (case s2 => (first | omega | (simp only [List.length_map]; omega) | (simp only [List.length_map]; exact Int.emod_nonneg _ (by omega)) | (simp only [List.length_map]; exact Int.emod_lt_of_pos _ (by omega)))))); try decreasing_trivial) | ((((with_reducible refine ix_lett ?s1 ?s2 ?_); (case s1 => omega); (case s2 => omega))); try decreasing_trivial) | ((((with_reducible refine ix_sgnM (m := 6) ?s0 ?s1 ?s2 (fun v mv => ?_)); (case s0 => decide +kernel); (case s1 => omega); (case s2 => omega))); try decreasing_trivial) | ((((with_reducible refine ix_sgnM (m := 7) ?s0 ?s1 ?s2 (fun v mv => ?_)); (case s0 => decide +kernel); (case s1 => omega); (case s2 => omega))); try decreasing_trivial) | ((((with_reducible refine ix_i2 ?s1 ?s2 (fun v vi => ?_)); (case s1 => omega); (case s2 => omega))); try decreasing_trivial) | ((((with_reducible refine ix_i3 ?s1 ?s2 (fun v vi => ?_)); (case s1 => omega); (case s2 => omega))); try decreasing_trivial) | ((((with_reducible refine ix_i6 ?s1 ?s2 (fun v vi => ?_)); (case s1 => omega); (case s2 => omega))); try decreasing_trivial) | ((((with_reducible refine ix_cons ?s1 (fun ei => ?_) (fun ei => ?_)); (case s1 => omega))); try decreasing_trivial) | ((((with_reducible refine ix_nil ?s1); (case s1 => omega))); try decreasing_trivial) | ((((with_reducible refine ix_let2 ?s1 ?s2 ?_); (case s1 => omega); (case s2 => omega))); try decreasing_trivial) | ((with_reducible refine' Exists.intro _ (And.intro ?sd ?_)); (case sd => exact rfl); try decreasing_trivial) | ((with_reducible refine iteB (fun c => ?_) (fun c => ?_)) <;> (try simp only [decide_eq_true_eq, decide_eq_false_iff_not, Bool.not_eq_true', Bool.not_eq_false', id, List.length_map, eqv_int, eqv_str, List.any_cons, List.any_nil, Bool.or_eq_true, Bool.or_false, Bool.or_eq_false_iff] at c) <;> (try exact absurd c (by assumption)) <;> (try exact absurd (by assumption) c) <;> (try exact absurd c (by decide +kernel)) <;> (try exact absurd (c.symm.trans (show _ = true by assumption)) (by decide)) <;> (try exact absurd (c.symm.trans (show _ = false by assumption)) (by decide)) <;> (try decreasing_trivial)) | ((with_reducible refine' Exists.intro _ (And.intro kit_bb ?_)); try decreasing_trivial) | ((with_reducible refine' Exists.intro _ (And.intro kit_ll ?_)); try decreasing_trivial) | ((with_reducible refine' Exists.intro _ (And.intro kit_tt ?_)); try decreasing_trivial) | ((with_reducible refine' Exists.intro _ (And.intro kit_dd ?_)); try decreasing_trivial) | ((with_reducible refine' Exists.intro _ (And.intro kit_ii ?_)); try decreasing_trivial) | ((with_reducible refine' Exists.intro _ (And.intro kit_ss ?_)); try decreasing_trivial) | ((with_reducible refine' Exists.intro _ (And.intro kit_ib ?_)); try decreasing_trivial) | ((with_reducible refine' Exists.intro _ (And.intro kit_bi ?_)); try decreasing_trivial) | ((with_reducible refine dv_hit ?sd ?_); (case sd => first | exact rfl | decide +kernel); try decreasing_trivial) | ((with_reducible refine dv_miss ?sd ?_); (case sd => decide +kernel); try decreasing_trivial) | ((first | rw [inx_set] | rw [inx_tell] | rw [inx_ifr] | rw [inx_whl] | rw [inx_tms]); try decreasing_trivial) | ((first | rw [cut_lo1] | rw [cut_hi1] | rw [cut_lo2] | rw [cut_hi2] | rw [cut_lo3] | rw [cut_hi3] | rw [cut_lo4] | rw [cut_hi4] | rw [cut_lo5] | rw [cut_hi5] | rw [cut_lo6] | rw [cut_hi6]); try decreasing_trivial))))
def sp_law : ASp := fun os k kx => ∃ ns, os = [.fl ns] ∧ ns.length ≤ 63 ∧ k (.p (.bool true)) [.fl ns]
section
variable {P : Program} {w : World} {K : PySem.W.Frag} {mg : Str → Option Value} {base : Heap} {fa : Addr} {fd : FuncData}
abbrev s_law : Stmt := top 29
abbrev n_law : List Str := ["_law_script", "_law_some", "_law_k", "_law_feed_here", "_law_greater", "_law_words", "_law_term", "_law_text", "_law_j"]
theorem sc_law : FnScope n_law ["_law_script"] (defScope s_law) := ⟨rfl, rfl, rfl, by decide +kernel, rfl, by decide +kernel, by decide +kernel⟩
theorem ok_law {er : PySem.Str → Addr} (F : Fun K "law" "law" s_law fa fd) (c_law_alike : DefOk P w K mg base "_law_alike" 20 ["_law_found", "_law_due"] [] (sp_law_alike 20)) (c_read_term : DefOk P w K mg base "read_term" 44 ["text"] [] (sp_read_term er)) (c_law_term_text : DefOk P w K mg base "_law_term_text" 20 ["_law_term"] [] (sp_law_term_text 20)) (c_law_any_term : DefOk P w K mg base "_law_any_term" 12 ["_law_feed_here", "_law_words", "_law_room", "_law_down"] [0, 1] (sp_law_any_term 10)) (c_law_word : DefOk P w K mg base "_law_word" 2 ["_law_feed_here"] [0] sp_law_word) (c_law_feed : DefOk P w K mg base "_law_feed" 1 ["_law_script", "_law_k"] [] sp_law_feed) (c_term_text : DefOk P w K mg base "term_text" 20 ["term"] [] (sp_term_text 20)) (c_law_take : DefOk P w K mg base "_law_take" 1 ["_law_feed_here", "_law_many"] [0] sp_law_take) (z_range : mg "range" = none) (z_max : mg "max" = none) (z_len : mg "len" = none) :
    FnV P w K mg base 46 fa fd ["_law_script"] [] sp_law := by
  refine FnV.of F sc_law (fun os k kx h => by obtain ⟨ns, rfl, _⟩ := h; rfl) fun cdv A outer s H E hg hr => ⟨_, _, (js_cons (js_set (i := 1) rfl sc_law.nd rfl (Or.inl rfl) (je_lst ja_nil))
      (js_cons (js_for (passes_of rfl) rfl (ji_range1 rfl z_range (ja_cons (je_B (call_maxX rfl) ok_maxX rfl z_max PyProof.Rows.boot_max (ja_cons je_int (ja_cons (je_B call_lenX ok_lenX rfl z_len PySem.boot_len (ja_cons (je_slU (je_var 0) je_int) ja_nil)) ja_nil))) ja_nil)) (jg_name (i := 2) rfl sc_law.nd rfl (Or.inl rfl)) (js_cons (js_set (i := 3) rfl sc_law.nd rfl (Or.inr rfl) (je_call [0] c_law_feed hg hr (by first | decide | exact Nat.le_refl _ | omega) (takes_of rfl rfl rfl rfl) rfl (ja_cons (je_var 0) (ja_cons (je_var 2) ja_nil))))
      (js_cons (js_setLc (i := 5) (B0 := [0, 1, 2, 3, 4, 5, 6, 7]) (own := [("_law_j", 8)]) (show ∀ j, j < 9 → j ∉ ([8] : List Nat) → j ∈ ([0, 1, 2, 3, 4, 5, 6, 7] : List Nat) by decide) rfl rfl sc_law.nd rfl rfl (sw_true rfl rfl rfl (by decide +kernel)) (ji_range1 rfl z_range (ja_cons (je_bin op_addX ok_add je_int (je_call [3] c_law_take hg hr (by first | decide | exact Nat.le_refl _ | omega) (takes_of rfl rfl rfl rfl) rfl (ja_cons (je_var 3) (ja_cons je_int ja_nil)))) ja_nil)) (blkOk_by (own := [("_law_j", 8)]) (N := n_law) (sc := defScope s_law) (by decide +kernel)) (fun _ _ _ _ _ => (jg_name (i := 8) rfl sc_law.nd rfl (Or.inl rfl))) (fun _ _ _ _ _ => jts_nil) (fun _ _ _ _ _ => (je_call [3] c_law_word hg hr (by first | decide | exact Nat.le_refl _ | omega) takes0 rfl (ja_cons (je_var 3) ja_nil))))
      (js_cons (js_set (i := 6) rfl sc_law.nd rfl (Or.inl rfl) (je_call [3, 5] c_law_any_term hg hr (by first | decide | exact Nat.le_refl _ | omega) (takes_of rfl rfl rfl rfl) rfl (ja_cons (je_var 3) (ja_cons (je_var 5) (ja_cons je_int (ja_cons je_int ja_nil))))))
      (js_one (js_expr (je_mt 1 PySem.F.slot_list_append PySem.F.type_list_append mt_append ok_append (je_var 1) (ja_cons (je_tup (ja_cons (je_var 6) (ja_cons (je_call [] c_law_term_text hg hr (by first | decide | exact Nat.le_refl _ | omega) (takes_of rfl rfl rfl rfl) rfl (ja_cons (je_var 6) ja_nil)) ja_nil))) ja_nil))))))))
      (js_cons (js_for (passes_of rfl) rfl (ji_seq (je_bin op_addX ok_add (je_var 1) (je_rev (je_var 1)))) (jg_tup rfl (jgs_cons (i := 6) rfl sc_law.nd rfl (Or.inl rfl) (jgs_cons (i := 7) rfl sc_law.nd rfl (Or.inl rfl) jgs_nil)) rfl) (js_one (js_if (JW.t (jw_or (jt_not (jt_val (je_call [] c_law_alike hg hr (by first | decide | exact Nat.le_refl _ | omega) (takes_of rfl rfl rfl rfl) rfl (ja_cons (je_call [] c_term_text hg hr (by first | decide | exact Nat.le_refl _ | omega) (takes_of rfl rfl rfl rfl) rfl (ja_cons (je_var 6) ja_nil)) (ja_cons (je_var 7) ja_nil))))) (jw_or1 (jt_not (jt_val (je_call [] c_law_alike hg hr (by first | decide | exact Nat.le_refl _ | omega) (takes_of rfl rfl rfl rfl) rfl (ja_cons (je_call [] c_read_term hg hr (by first | decide | exact Nat.le_refl _ | omega) (takes_of rfl rfl rfl rfl) rfl (ja_cons (je_var 7) ja_nil)) (ja_cons (je_var 6) ja_nil)))))))) (js_one (js_ret je_bl)) js_nil)))
      (js_cons (js_set (i := 3) rfl sc_law.nd rfl (Or.inr rfl) (je_call [0] c_law_feed hg hr (by first | decide | exact Nat.le_refl _ | omega) (takes_of rfl rfl rfl rfl) rfl (ja_cons (je_var 0) (ja_cons je_int ja_nil))))
      (js_cons (js_set (i := 4) rfl sc_law.nd rfl (Or.inl rfl) (je_call [3] c_law_any_term hg hr (by first | decide | exact Nat.le_refl _ | omega) (takes_of rfl rfl rfl rfl) rfl (ja_late 3 (ja_cons (je_lst (ja_cons (je_call [3] c_law_word hg hr (by first | decide | exact Nat.le_refl _ | omega) (takes_of rfl rfl rfl rfl) rfl (ja_cons (je_var 3) ja_nil)) (ja_cons (je_call [3] c_law_word hg hr (by first | decide | exact Nat.le_refl _ | omega) (takes_of rfl rfl rfl rfl) rfl (ja_cons (je_var 3) ja_nil)) ja_nil))) (ja_cons je_int (ja_cons je_int ja_nil))))))
      (js_one (js_ret (je_call [] c_law_alike hg hr (by first | decide | exact Nat.le_refl _ | omega) (takes_of rfl rfl rfl rfl) rfl (ja_cons (je_call [] c_read_term hg hr (by first | decide | exact Nat.le_refl _ | omega) (takes_of rfl rfl rfl rfl) rfl (ja_cons (je_call [] c_law_term_text hg hr (by first | decide | exact Nat.le_refl _ | omega) (takes_of rfl rfl rfl rfl) rfl (ja_cons (je_var 4) ja_nil)) ja_nil)) (ja_cons (je_var 4) ja_nil)))))))))), fun os kk kx h => ?_⟩
  obtain ⟨ns, rfl, h0, k⟩ := h
  have e8 : (VL.cutD (ns.map PyData.int) none (some 8)).length ≤ 8 := by
    rw [show VL.cutD (ns.map PyData.int) none (some 8) = (ns.map PyData.int).take 8 from cutD_hi (k := 8), List.length_take]
    omega
  try dsimp only [n_law, List.length_cons, List.length_nil, Nat.reduceAdd, Nat.reduceSub]
  try decreasing_trivial
  trivial
  generalize (VL.cutD (ns.map PyData.int) none (some 8)).length = M at e8
  refine forW_rng (fun i g => ∃ acc o2 o3 o5 o6 o7, g = [some (.fl ns), some (.ls acc), o2, o3, none, o5, o6, o7, none] ∧ acc.length = i ∧ ∀ d ∈ acc, ∃ t, d = .tuple [Tr.d t, .str t.txt] ∧ TmOk 4 9 t) ?_ ?_ _ ⟨[], _, _, _, _, _, rfl, rfl, fun _ m => absurd m List.not_mem_nil⟩
  · rintro i g K hi ⟨acc, o2, o3, o5, o6, o7, rfl, l1, l2⟩ hk
    have hi2 : i < 8 := by
      revert hi
      split <;> omega
    have hz : acc.length < sizeLine := Nat.lt_of_lt_of_le (by omega : _ < 1000) (by decide)
    try dsimp only [n_law, List.length_cons, List.length_nil, Nat.reduceAdd, Nat.reduceSub]
    try decreasing_trivial
    trivial
    refine lcW_rng (fun i2 acc2 g => ∃ A B ys, g = [some (.fl ns), some (.ls acc), some (.p (.int (0 + (i : Int)))), some (.ls [.int A, .int B]), none, o5, o6, o7, none] ∧ acc2 = ys.map PyData.str ∧ ys.length = i2 ∧ ∀ y ∈ ys, Nx y) ?_ ?_ _ ⟨_, _, [], rfl, rfl, rfl, fun _ m => absurd m List.not_mem_nil⟩
    · rintro j acc2 g K2 hj ⟨A, B, ys, rfl, rfl, n1, n2⟩ hk2
      have hz2 : (ys.map PyData.str).length < sizeLine := by rw [List.length_map]; exact Nat.lt_of_lt_of_le (by omega : _ < 1000) (by decide)
      try dsimp only [n_law, List.length_cons, List.length_nil, Nat.reduceAdd, Nat.reduceSub]
      try decreasing_trivial
      trivial
      refine hk2 _ _ ⟨_, _, ys ++ [wd], rfl, by rw [List.map_append]; rfl, by rw [List.length_append]; show ys.length + 1 = _; omega, fun y m => ?_⟩
      rcases List.mem_append.mp m with m | m
      · exact n2 y m
      · rw [List.mem_singleton.mp m]; exact wx
    · rintro acc2 g ⟨A, B, ys, rfl, rfl, n1, n2⟩
      have y0 : 0 < ys.length := by omega
      have y1 : ys.length ≤ 100 := by omega
      try dsimp only [n_law, List.length_cons, List.length_nil, Nat.reduceAdd, Nat.reduceSub]
      try decreasing_trivial
      trivial
      have TK : TmOk 4 9 t := ⟨Tr.okm n2 t3, by omega, by omega⟩
      have tok := TK.ok
      try dsimp only [n_law, List.length_cons, List.length_nil, Nat.reduceAdd, Nat.reduceSub]
      try decreasing_trivial
      trivial
      refine hk _ ⟨_, _, _, _, _, _, rfl, by rw [List.length_append]; show acc.length + 1 = _; omega, fun d m => ?_⟩
      rcases List.mem_append.mp m with m | m
      · exact l2 d m
      · exact ⟨t, List.mem_singleton.mp m, TK⟩
  · rintro g ⟨acc, o2, o3, o5, o6, o7, rfl, l1, l2⟩
    have hM : acc.length ≤ 8 := by
      rw [l1]
      split <;> omega
    try dsimp only [n_law, List.length_cons, List.length_nil, Nat.reduceAdd, Nat.reduceSub]
    try decreasing_trivial
    trivial
    refine forW_at (fun i g => ∃ o2 o3 o5 o6 o7, g = [some (.fl ns), some (.ls acc), o2, o3, none, o5, o6, o7, none]) ?_ ?_ _ ⟨_, _, _, _, _, rfl⟩
    · rintro i d g K ei ⟨o2, o3, o5, o6, o7, rfl⟩ hk
      have md : d ∈ acc := by
        rcases List.mem_append.mp (List.mem_of_getElem? ei) with m | m
        · exact m
        · exact List.mem_reverse.mp m
      obtain ⟨tt, rfl, TK⟩ := l2 d md
      have tok := TK.ok
      have td := TK.dn
      have tp := TK.pt
      have tl := TK.len
      have tc := TK.cnt
      have al1 : Alk 0 (.str tt.txt) := .str _ _
      have al2 := TK.alk
      try dsimp only [n_law, List.length_cons, List.length_nil, Nat.reduceAdd, Nat.reduceSub]
      try decreasing_trivial
      trivial
      · have e := (TK.rd (by decide)).symm.trans ht
        cases e
        try dsimp only [n_law, List.length_cons, List.length_nil, Nat.reduceAdd, Nat.reduceSub]
        try decreasing_trivial
        trivial
        exact hk _ ⟨_, _, _, _, _, rfl⟩
      · exact absurd ((TK.rd (by decide)).symm.trans ht) (by intro e; cases e)
    · rintro g ⟨o2, o3, o5, o6, o7, rfl⟩
      try dsimp only [n_law, List.length_cons, List.length_nil, Nat.reduceAdd, Nat.reduceSub]
      try decreasing_trivial
      trivial
      rename_i w1 _ _ x1
      refine ⟨_, _, [w1, wd], _, _, rfl, by simp, by simp, by omega, by omega, by omega, by omega, fun t a b t1 t2 t3 => ?_⟩
      have TK : TmOk 8 17 t := ⟨Tr.okm (fun s m => by
        rcases List.mem_cons.mp m with rfl | m
        · exact x1
        · rw [List.mem_singleton.mp m]; exact wx) t3, by omega, by omega⟩
      have tok := TK.ok
      have td := TK.dn
      have tp := TK.pt
      have tl := TK.len
      have tc := TK.cnt
      have al2 := TK.alk
      try dsimp only [n_law, List.length_cons, List.length_nil, Nat.reduceAdd, Nat.reduceSub]
      try decreasing_trivial
      trivial
      · skip
        have e := (TK.rd (by decide)).symm.trans ht
        cases e
        try dsimp only [n_law, List.length_cons, List.length_nil, Nat.reduceAdd, Nat.reduceSub]
        try decreasing_trivial
        trivial
        exact k
      · exact absurd ((TK.rd (by decide)).symm.trans ht) (by intro e; cases e)
end
end KR

namespace KR
open PySem PySem.Spec PyProof.Rows L2 VL
theorem pd_KEPT {K : PySem.W.Frag} : ∀ (Z : ZS) (H : Hp), PDs K Z H ((keptL.map PyData.str).map flV) (keptL.map PyData.str) := fun _ _ => .cons (.str _) (.cons (.str _) (.cons (.str _) (.cons (.str _) (.cons (.str _) (.cons (.str _) (.cons (.str _) (.cons (.str _) (.nil))))))))
theorem pd_INS {K : PySem.W.Frag} : ∀ (Z : ZS) (H : Hp), PDs K Z H ([.str "in0", .str "in1", .str "in2"].map flV) [.str "in0", .str "in1", .str "in2"] := fun _ _ => .cons (.str _) (.cons (.str _) (.cons (.str _) (.nil)))
theorem all_parts {l : PySem.W.OpenLaw} {w : World} {K : PySem.W.Frag} {h : Heap} {mg : Str → Option Value} {fa f1 f2 f3 f4 f5 f6 f7 f8 f9 f10 f11 f12 f13 f14 f15 f16 f17 : Addr} (X : K.In h) (G : h.Ns mainGlobals mg) (hfa : mg "law" = some (.ref fa))
    {od1 an1 od2 an2 od3 an3 od4 an4 od5 an5 od6 an6 od7 an7 od8 an8 od9 an9 od10 an10 od11 an11 od12 an12 od13 an13 od14 an14 od15 an15 od16 an16 od17 an17 : Option Addr} {sl1 sl2 sl3 sl4 sl5 sl6 sl7 sl8 sl9 sl10 sl11 sl12 sl13 sl14 sl15 sl16 sl17 : Array (Option Value)} {oc1 kV1 dc1 pm1 cd1 ct1 oc2 kV2 dc2 pm2 cd2 ct2 oc3 kV3 dc3 pm3 cd3 ct3 oc4 kV4 dc4 pm4 cd4 ct4 oc5 kV5 dc5 pm5 cd5 ct5 oc6 kV6 dc6 pm6 cd6 ct6 oc7 kV7 dc7 pm7 cd7 ct7 oc8 kV8 dc8 pm8 cd8 ct8 oc9 kV9 dc9 pm9 cd9 ct9 oc10 kV10 dc10 pm10 cd10 ct10 oc11 kV11 dc11 pm11 cd11 ct11 oc12 kV12 dc12 pm12 cd12 ct12 oc13 kV13 dc13 pm13 cd13 ct13 oc14 kV14 dc14 pm14 cd14 ct14 oc15 kV15 dc15 pm15 cd15 ct15 oc16 kV16 dc16 pm16 cd16 ct16 oc17 kV17 dc17 pm17 cd17 ct17 : Value} {tLETTERS tMOST_SIGNS tSIGNS tNUMBER_SIGNS : Tok} {rKEPT : Addr} {oKEPT : Obj} {iKEPT : Array Value} {nKEPT : Nat} {rINS : Addr} {oINS : Obj} {iINS : Array Value} {nINS : Nat} {CMeantError : Addr} {CBadText : Addr} {nmBadText qnBadText : Str} {NBadText IBadText : Addr} {bsBadText subBadText bmBadText : List Value} {snBadText : List Str} {abBadText : Bool} {colBadText : Option Bool} {ddBadText odBadText anBadText : Option Addr} {m0BadText m1BadText m2BadText m3BadText m5BadText : Option Value} {ocBadText dcBadText pmBadText cdBadText ctBadText : Value} {slBadText : Array (Option Value)} {p1BadText p2BadText q1BadText q2BadText q3BadText q4BadText : Pos}
    (a1 : PySem.W.nsIn K mainGlobals "law" = some (some (.ref f1))) (l1 : K.lookup f1 = some ⟨oc1, od1, .func (PySem.W.fnOf "law" "law" (defArgs s_law) (defBody s_law) (defScope s_law) .none kV1 dc1 pm1 an1 cd1 ct1), sl1⟩) (c1 : PySem.W.codeIn K cd1 "law" = true) (k1 : PySem.W.keepIn K (.ref f1) = true)
    (a2 : PySem.W.nsIn K mainGlobals "_law_alike" = some (some (.ref f2))) (l2 : K.lookup f2 = some ⟨oc2, od2, .func (PySem.W.fnOf "_law_alike" "_law_alike" (defArgs s_law_alike) (defBody s_law_alike) (defScope s_law_alike) .none kV2 dc2 pm2 an2 cd2 ct2), sl2⟩) (c2 : PySem.W.codeIn K cd2 "_law_alike" = true) (k2 : PySem.W.keepIn K (.ref f2) = true)
    (a3 : PySem.W.nsIn K mainGlobals "read_term" = some (some (.ref f3))) (l3 : K.lookup f3 = some ⟨oc3, od3, .func (PySem.W.fnOf "read_term" "read_term" (defArgs s_read_term) (defBody s_read_term) (defScope s_read_term) .none kV3 dc3 pm3 an3 cd3 ct3), sl3⟩) (c3 : PySem.W.codeIn K cd3 "read_term" = true) (k3 : PySem.W.keepIn K (.ref f3) = true)
    (a4 : PySem.W.nsIn K mainGlobals "whole_term" = some (some (.ref f4))) (l4 : K.lookup f4 = some ⟨oc4, od4, .func (PySem.W.fnOf "whole_term" "whole_term" (defArgs s_whole_term) (defBody s_whole_term) (defScope s_whole_term) .none kV4 dc4 pm4 an4 cd4 ct4), sl4⟩) (c4 : PySem.W.codeIn K cd4 "whole_term" = true) (k4 : PySem.W.keepIn K (.ref f4) = true)
    (a5 : PySem.W.nsIn K mainGlobals "need_text" = some (some (.ref f5))) (l5 : K.lookup f5 = some ⟨oc5, od5, .func (PySem.W.fnOf "need_text" "need_text" (defArgs s_need_text) (defBody s_need_text) (defScope s_need_text) .none kV5 dc5 pm5 an5 cd5 ct5), sl5⟩) (c5 : PySem.W.codeIn K cd5 "need_text" = true) (k5 : PySem.W.keepIn K (.ref f5) = true)
    (a6 : PySem.W.nsIn K mainGlobals "term_at" = some (some (.ref f6))) (l6 : K.lookup f6 = some ⟨oc6, od6, .func (PySem.W.fnOf "term_at" "term_at" (defArgs s_term_at) (defBody s_term_at) (defScope s_term_at) .none kV6 dc6 pm6 an6 cd6 ct6), sl6⟩) (c6 : PySem.W.codeIn K cd6 "term_at" = true) (k6 : PySem.W.keepIn K (.ref f6) = true)
    (a7 : PySem.W.nsIn K mainGlobals "leaf_of" = some (some (.ref f7))) (l7 : K.lookup f7 = some ⟨oc7, od7, .func (PySem.W.fnOf "leaf_of" "leaf_of" (defArgs s_leaf_of) (defBody s_leaf_of) (defScope s_leaf_of) .none kV7 dc7 pm7 an7 cd7 ct7), sl7⟩) (c7 : PySem.W.codeIn K cd7 "leaf_of" = true) (k7 : PySem.W.keepIn K (.ref f7) = true)
    (a8 : PySem.W.nsIn K mainGlobals "is_name" = some (some (.ref f8))) (l8 : K.lookup f8 = some ⟨oc8, od8, .func (PySem.W.fnOf "is_name" "is_name" (defArgs s_is_name) (defBody s_is_name) (defScope s_is_name) .none kV8 dc8 pm8 an8 cd8 ct8), sl8⟩) (c8 : PySem.W.codeIn K cd8 "is_name" = true) (k8 : PySem.W.keepIn K (.ref f8) = true)
    (a9 : PySem.W.nsIn K mainGlobals "is_number" = some (some (.ref f9))) (l9 : K.lookup f9 = some ⟨oc9, od9, .func (PySem.W.fnOf "is_number" "is_number" (defArgs s_is_number) (defBody s_is_number) (defScope s_is_number) .none kV9 dc9 pm9 an9 cd9 ct9), sl9⟩) (c9 : PySem.W.codeIn K cd9 "is_number" = true) (k9 : PySem.W.keepIn K (.ref f9) = true)
    (a10 : PySem.W.nsIn K mainGlobals "_law_term_text" = some (some (.ref f10))) (l10 : K.lookup f10 = some ⟨oc10, od10, .func (PySem.W.fnOf "_law_term_text" "_law_term_text" (defArgs s_law_term_text) (defBody s_law_term_text) (defScope s_law_term_text) .none kV10 dc10 pm10 an10 cd10 ct10), sl10⟩) (c10 : PySem.W.codeIn K cd10 "_law_term_text" = true) (k10 : PySem.W.keepIn K (.ref f10) = true)
    (a11 : PySem.W.nsIn K mainGlobals "_law_any_term" = some (some (.ref f11))) (l11 : K.lookup f11 = some ⟨oc11, od11, .func (PySem.W.fnOf "_law_any_term" "_law_any_term" (defArgs s_law_any_term) (defBody s_law_any_term) (defScope s_law_any_term) .none kV11 dc11 pm11 an11 cd11 ct11), sl11⟩) (c11 : PySem.W.codeIn K cd11 "_law_any_term" = true) (k11 : PySem.W.keepIn K (.ref f11) = true)
    (a12 : PySem.W.nsIn K mainGlobals "_law_take" = some (some (.ref f12))) (l12 : K.lookup f12 = some ⟨oc12, od12, .func (PySem.W.fnOf "_law_take" "_law_take" (defArgs s_law_take) (defBody s_law_take) (defScope s_law_take) .none kV12 dc12 pm12 an12 cd12 ct12), sl12⟩) (c12 : PySem.W.codeIn K cd12 "_law_take" = true) (k12 : PySem.W.keepIn K (.ref f12) = true)
    (a13 : PySem.W.nsIn K mainGlobals "_law_number" = some (some (.ref f13))) (l13 : K.lookup f13 = some ⟨oc13, od13, .func (PySem.W.fnOf "_law_number" "_law_number" (defArgs s_law_number) (defBody s_law_number) (defScope s_law_number) .none kV13 dc13 pm13 an13 cd13 ct13), sl13⟩) (c13 : PySem.W.codeIn K cd13 "_law_number" = true) (k13 : PySem.W.keepIn K (.ref f13) = true)
    (a14 : PySem.W.nsIn K mainGlobals "_law_word" = some (some (.ref f14))) (l14 : K.lookup f14 = some ⟨oc14, od14, .func (PySem.W.fnOf "_law_word" "_law_word" (defArgs s_law_word) (defBody s_law_word) (defScope s_law_word) .none kV14 dc14 pm14 an14 cd14 ct14), sl14⟩) (c14 : PySem.W.codeIn K cd14 "_law_word" = true) (k14 : PySem.W.keepIn K (.ref f14) = true)
    (a15 : PySem.W.nsIn K mainGlobals "_law_kept" = some (some (.ref f15))) (l15 : K.lookup f15 = some ⟨oc15, od15, .func (PySem.W.fnOf "_law_kept" "_law_kept" (defArgs s_law_kept) (defBody s_law_kept) (defScope s_law_kept) .none kV15 dc15 pm15 an15 cd15 ct15), sl15⟩) (c15 : PySem.W.codeIn K cd15 "_law_kept" = true) (k15 : PySem.W.keepIn K (.ref f15) = true)
    (a16 : PySem.W.nsIn K mainGlobals "_law_feed" = some (some (.ref f16))) (l16 : K.lookup f16 = some ⟨oc16, od16, .func (PySem.W.fnOf "_law_feed" "_law_feed" (defArgs s_law_feed) (defBody s_law_feed) (defScope s_law_feed) .none kV16 dc16 pm16 an16 cd16 ct16), sl16⟩) (c16 : PySem.W.codeIn K cd16 "_law_feed" = true) (k16 : PySem.W.keepIn K (.ref f16) = true)
    (a17 : PySem.W.nsIn K mainGlobals "term_text" = some (some (.ref f17))) (l17 : K.lookup f17 = some ⟨oc17, od17, .func (PySem.W.fnOf "term_text" "term_text" (defArgs s_term_text) (defBody s_term_text) (defScope s_term_text) .none kV17 dc17 pm17 an17 cd17 ct17), sl17⟩) (c17 : PySem.W.codeIn K cd17 "term_text" = true) (k17 : PySem.W.keepIn K (.ref f17) = true)
    (vLETTERS : PySem.W.nsIn K mainGlobals "LETTERS" = some (some (.str "abcdefghijklmnopqrstuvwxyz" tLETTERS)))
    (vMOST_SIGNS : PySem.W.nsIn K mainGlobals "MOST_SIGNS" = some (some (.int 6 tMOST_SIGNS)))
    (vKEPT : PySem.W.nsIn K mainGlobals "KEPT" = some (some (.ref rKEPT))) (wKEPT : K.lookup rKEPT = some oKEPT) (qKEPT : oKEPT.cls = .type "tuple") (dKEPT : oKEPT.data = .seq iKEPT nKEPT) (yKEPT : iKEPT.size ≤ sizeLine) (pKEPT : Vals ((keptL.map PyData.str).map flV) iKEPT.toList)
    (vSIGNS : PySem.W.nsIn K mainGlobals "SIGNS" = some (some (.str "+-*:<=" tSIGNS)))
    (vNUMBER_SIGNS : PySem.W.nsIn K mainGlobals "NUMBER_SIGNS" = some (some (.int 6 tNUMBER_SIGNS)))
    (vINS : PySem.W.nsIn K mainGlobals "INS" = some (some (.ref rINS))) (wINS : K.lookup rINS = some oINS) (qINS : oINS.cls = .type "tuple") (dINS : oINS.data = .seq iINS nINS) (yINS : iINS.size ≤ sizeLine) (pINS : Vals ([.str "in0", .str "in1", .str "in2"].map flV) iINS.toList)
    (zall : PySem.W.nsIn K mainGlobals "all" = some none)
    (zbool : PySem.W.nsIn K mainGlobals "bool" = some none)
    (zint : PySem.W.nsIn K mainGlobals "int" = some none)
    (zisinstance : PySem.W.nsIn K mainGlobals "isinstance" = some none)
    (zlen : PySem.W.nsIn K mainGlobals "len" = some none)
    (zmax : PySem.W.nsIn K mainGlobals "max" = some none)
    (zrange : PySem.W.nsIn K mainGlobals "range" = some none)
    (zstr : PySem.W.nsIn K mainGlobals "str" = some none)
    (ztuple : PySem.W.nsIn K mainGlobals "tuple" = some none)
    (zzip : PySem.W.nsIn K mainGlobals "zip" = some none)
    (xaMeantError : PySem.W.nsIn K mainGlobals "MeantError" = some (some (.ref CMeantError)))
    (xiMeantError : PySem.W.isClsIn K CMeantError = true)
    (xtMeantError : PySem.W.typeIn K (.ref CMeantError) = some (.type "type"))
    (xbMeantError : PySem.W.subIn K (.ref CMeantError) (.type "BaseException") = some true)
    (xaBadText : PySem.W.nsIn K mainGlobals "BadText" = some (some (.ref CBadText)))
    (xiBadText : PySem.W.isClsIn K CBadText = true)
    (xtBadText : PySem.W.typeIn K (.ref CBadText) = some (.type "type"))
    (xbBadText : PySem.W.subIn K (.ref CBadText) (.type "BaseException") = some true)
    (xgBadText : PySem.W.findIn K (.ref CBadText) "__getattribute__" = some (some (.builtin "BaseException.__getattribute__")))
    (xkBadText : PySem.W.findIn K (.ref CBadText) "__getattr__" = some none)
    (xhBadText : PySem.W.hasDictIn K CBadText = true)
    (xcBadText : PySem.W.findIn K (.ref CBadText) "__class__" = some (some (.builtin "object.__class__")))
    (xoBadText : PySem.W.mroIn K CBadText (.type "object") = some true)
    (xmBadText : PySem.W.subIn K (.ref CBadText) (.ref CMeantError) = some true)
    (xvBadText : PySem.W.subIn K (.ref CBadText) (.type "ValueError") = some true)
    (xsBadTextBadText : PySem.W.subIn K (.ref CBadText) (.ref CBadText) = some true)
    (xnBadText : PySem.W.findIn K (.ref CBadText) "at" = some none)
    (xget : PySem.W.specialIn K (.builtin "object.__class__") "__get__" = some (some (.builtin "getset_descriptor.__get__")))
    (xtak : PySem.W.takesIn K (.builtin "object.__class__") = some true)
    (xLBadText : K.lookup CBadText = some (excClassObj nmBadText qnBadText CBadText NBadText bsBadText bmBadText true snBadText subBadText abBadText colBadText ddBadText m0BadText m1BadText m2BadText m3BadText m5BadText "ValueError.__new__"))
    (xMBadText : PySem.HandSPX.refsVE bmBadText = true)
    (xABadText : PySem.W.findIn K (.ref CBadText) "__setattr__" = some (some (.builtin "object.__setattr__")))
    (xIBadText : PySem.W.findIn K (.ref CBadText) "__init__" = some (some (.ref IBadText)))
    (xTBadText : PySem.W.typeIn K (.ref IBadText) = some (.type "function"))
    (xFBadText : K.lookup IBadText = some ⟨ocBadText, odBadText, .func (PySem.W.fnOf "__init__" "BadText.__init__" (PySem.BadTextX.iA p1BadText p2BadText) (PySem.BadTextX.iB q1BadText q2BadText q3BadText q4BadText) PySem.BadTextX.iS .none .none dcBadText pmBadText anBadText cdBadText ctBadText), slBadText⟩)
    (xCBadText : PySem.W.codeIn K cdBadText "BadText.__init__" = true)
    (xKBadText : PySem.W.keepIn K (.ref CBadText) = true) :
    ∃ fd : FuncData, (∀ (s : Shared) (v : Value), BindsTo s fd ⟨[v], []⟩ [("_law_script", v)]) ∧ ∀ base : Heap, K.In base → base.Ns mainGlobals mg → FnV l.prog w K mg base 46 fa fd ["_law_script"] [] sp_law := by
  cases hfa.symm.trans (PySem.W.mg_of X G a1)
  have F1 := fun_mk (st := s_law) l1 c1 k1
  have b1 := F1.binds (ps := ["_law_script"]) fun _ _ _ _ _ _ us hl => match us, hl with | [_], _ => rfl
  have F2 := fun_mk (st := s_law_alike) l2 c2 k2
  have b2 := F2.binds (ps := ["_law_found", "_law_due"]) fun _ _ _ _ _ _ us hl => match us, hl with | [_, _], _ => rfl
  have F3 := fun_mk (st := s_read_term) l3 c3 k3
  have b3 := F3.binds (ps := ["text"]) fun _ _ _ _ _ _ us hl => match us, hl with | [_], _ => rfl
  have F4 := fun_mk (st := s_whole_term) l4 c4 k4
  have b4 := F4.binds (ps := ["text", "at"]) fun _ _ _ _ _ _ us hl => match us, hl with | [_, _], _ => rfl
  have F5 := fun_mk (st := s_need_text) l5 c5 k5
  have b5 := F5.binds (ps := ["good", "at"]) fun _ _ _ _ _ _ us hl => match us, hl with | [_, _], _ => rfl
  have F6 := fun_mk (st := s_term_at) l6 c6 k6
  have b6 := F6.binds (ps := ["text", "begin", "at"]) fun _ _ _ _ _ _ us hl => match us, hl with | [_, _, _], _ => rfl
  have F7 := fun_mk (st := s_leaf_of) l7 c7 k7
  have b7 := F7.binds (ps := ["word", "at"]) fun _ _ _ _ _ _ us hl => match us, hl with | [_, _], _ => rfl
  have F8 := fun_mk (st := s_is_name) l8 c8 k8
  have b8 := F8.binds (ps := ["text"]) fun _ _ _ _ _ _ us hl => match us, hl with | [_], _ => rfl
  have F9 := fun_mk (st := s_is_number) l9 c9 k9
  have b9 := F9.binds (ps := ["word"]) fun _ _ _ _ _ _ us hl => match us, hl with | [_], _ => rfl
  have F10 := fun_mk (st := s_law_term_text) l10 c10 k10
  have b10 := F10.binds (ps := ["_law_term"]) fun _ _ _ _ _ _ us hl => match us, hl with | [_], _ => rfl
  have F11 := fun_mk (st := s_law_any_term) l11 c11 k11
  have b11 := F11.binds (ps := ["_law_feed_here", "_law_words", "_law_room", "_law_down"]) fun _ _ _ _ _ _ us hl => match us, hl with | [_, _, _, _], _ => rfl
  have F12 := fun_mk (st := s_law_take) l12 c12 k12
  have b12 := F12.binds (ps := ["_law_feed_here", "_law_many"]) fun _ _ _ _ _ _ us hl => match us, hl with | [_, _], _ => rfl
  have F13 := fun_mk (st := s_law_number) l13 c13 k13
  have b13 := F13.binds (ps := ["_law_feed_here"]) fun _ _ _ _ _ _ us hl => match us, hl with | [_], _ => rfl
  have F14 := fun_mk (st := s_law_word) l14 c14 k14
  have b14 := F14.binds (ps := ["_law_feed_here"]) fun _ _ _ _ _ _ us hl => match us, hl with | [_], _ => rfl
  have F15 := fun_mk (st := s_law_kept) l15 c15 k15
  have b15 := F15.binds (ps := []) fun _ _ _ _ _ _ us hl => match us, hl with | [], _ => rfl
  have F16 := fun_mk (st := s_law_feed) l16 c16 k16
  have b16 := F16.binds (ps := ["_law_script", "_law_k"]) fun _ _ _ _ _ _ us hl => match us, hl with | [_, _], _ => rfl
  have F17 := fun_mk (st := s_term_text) l17 c17 k17
  have b17 := F17.binds (ps := ["term"]) fun _ _ _ _ _ _ us hl => match us, hl with | [_], _ => rfl
  let er : PySem.Str → Addr := fun x => if x = "MeantError" then CMeantError else if x = "BadText" then CBadText else 0
  have erMeantError : er "MeantError" = CMeantError := by
    show (if ("MeantError" : Str) = "MeantError" then CMeantError else if ("MeantError" : Str) = "BadText" then CBadText else 0) = _
    rw [if_pos rfl]
  have erBadText : er "BadText" = CBadText := by
    show (if ("BadText" : Str) = "MeantError" then CMeantError else if ("BadText" : Str) = "BadText" then CBadText else 0) = _
    rw [if_neg (by decide +kernel), if_pos rfl]
  have c1BadText : Cls1 K mg "BadText" CBadText CMeantError := ⟨PySem.W.mg_of X G xaBadText, xgBadText, xkBadText, xbBadText, xhBadText, xcBadText, xoBadText, xiBadText, xtBadText, xmBadText, xvBadText, xsBadTextBadText⟩
  have txBadText : PySem.BadTextX.BadTextTxt K mg CBadText IBadText := { gC := PySem.W.mg_of X G xaBadText, cls := ⟨nmBadText, qnBadText, NBadText, bsBadText, _, snBadText, subBadText, abBadText, colBadText, ddBadText, m0BadText, m1BadText, m2BadText, m3BadText, m5BadText, xLBadText, xMBadText⟩, sa := xABadText, ga := xgBadText, gg := xkBadText, noN := xnBadText, iC := xIBadText, tC := xTBadText, kC := xKBadText, exC := xbBadText, tyC := xtBadText, hdC := xhBadText, fn := ⟨_, _, _, _, _, _, _, _, _, _, _, _, _, _, xFBadText, xCBadText⟩ }
  have EE : Errs K mg er ["BadText"] ["BadText"] := by
    refine ⟨?_, ?_, ?_, ?_, ?_, ?_, ?_, ?_, ?_⟩
    · rw [erMeantError]; exact PySem.W.mg_of X G xaMeantError
    · intro x mx
      simp only [List.mem_cons, List.not_mem_nil, or_false] at mx; rcases mx with rfl
      · rw [erBadText]; exact c1BadText.ex xget xtak
    · intro x mx f ef
      simp only [List.mem_cons, List.not_mem_nil, or_false] at mx; rcases mx with rfl
      · cases (show fldOf "BadText" = some "at" by decide +kernel).symm.trans ef; rw [erBadText]; exact mk_BadText txBadText
    · intro x mx f ef
      simp only [List.mem_cons, List.not_mem_nil, or_false] at mx; rcases mx with rfl
      · cases (show fldOf "BadText" = some "at" by decide +kernel).symm.trans ef; rw [erBadText]; exact xnBadText
    · intro x mx
      simp only [List.mem_cons, List.not_mem_nil, or_false] at mx; rcases mx with rfl
      · rw [erBadText, erMeantError]; exact exm_of xbMeantError xiMeantError xtMeantError xmBadText
    · intro x mx y my
      simp only [List.mem_cons, List.not_mem_nil, or_false] at mx; rcases mx with rfl
      · simp only [List.mem_cons, List.not_mem_nil, or_false] at my; rcases my with rfl
        · rw [erBadText, (show decide (("BadText" : Str) = "BadText") = true by decide +kernel)]; exact exm_of xbBadText xiBadText xtBadText xsBadTextBadText
    · intro x mx
      simp only [List.mem_cons, List.not_mem_nil, or_false] at mx; rcases mx with rfl
      · rw [erBadText, erMeantError]; exact kit1_of xsBadTextBadText xiMeantError xtMeantError xmBadText
    · intro x mx
      simp only [List.mem_cons, List.not_mem_nil, or_false] at mx; rcases mx with rfl
      · rw [erBadText]; exact kitV_of xvBadText
    · intro x mx y my
      simp only [List.mem_cons, List.not_mem_nil, or_false] at mx; rcases mx with rfl
      · simp only [List.mem_cons, List.not_mem_nil, or_false] at my; rcases my with rfl
        · rw [erBadText, (show decide (("BadText" : Str) = "BadText") = true by decide +kernel)]; exact kit1_of xsBadTextBadText xiBadText xtBadText xsBadTextBadText
  refine ⟨PySem.W.fnOf "law" "law" (defArgs s_law) (defBody s_law) (defScope s_law) .none kV1 dc1 pm1 an1 cd1 ct1, fun s v => .of_eq rfl, fun base _ _ => ?_⟩
  have D2 : ∀ j : Nat, DefOk l.prog w K mg base "_law_alike" j ["_law_found", "_law_due"] [] (sp_law_alike j) := by
    intro j
    induction j with
    | zero => exact ⟨_, _, no_fuel (fun os k kx ⟨d, m, _, _, h, _⟩ => Nat.not_lt_zero _ h), PySem.W.mg_of X G a2, k2, b2⟩
    | succ j ih => exact ⟨_, _, ok_law_alike F2 ih (PySem.W.mg_none_of X G zisinstance) (PySem.W.mg_none_of X G zbool) (PySem.W.mg_none_of X G zint) (PySem.W.mg_none_of X G zstr) (PySem.W.mg_none_of X G ztuple) (PySem.W.mg_none_of X G zall) (PySem.W.mg_none_of X G zzip) (PySem.W.mg_none_of X G zlen), PySem.W.mg_of X G a2, k2, b2⟩
  have D5 : DefOk l.prog w K mg base "need_text" 1 ["good", "at"] [] (sp_need_text er) := ⟨_, _, ok_need_text (er := er) EE F5 , PySem.W.mg_of X G a5, k5, b5⟩
  have D8 : DefOk l.prog w K mg base "is_name" 1 ["text"] [] (sp_is_name) := ⟨_, _, ok_is_name F8 (gl_str (PySem.W.mg_of X G vLETTERS)) (gl_tup (PySem.W.mg_of X G vKEPT) wKEPT qKEPT dKEPT yKEPT pKEPT pd_KEPT) (gl_int (PySem.W.mg_of X G vMOST_SIGNS)) (PySem.W.mg_none_of X G zall) (PySem.W.mg_none_of X G zlen), PySem.W.mg_of X G a8, k8, b8⟩
  have D9 : DefOk l.prog w K mg base "is_number" 1 ["word"] [] (sp_is_number) := ⟨_, _, ok_is_number F9 (gl_int (PySem.W.mg_of X G vNUMBER_SIGNS)) (PySem.W.mg_none_of X G zlen) (PySem.W.mg_none_of X G zall), PySem.W.mg_of X G a9, k9, b9⟩
  have D7 : DefOk l.prog w K mg base "leaf_of" 2 ["word", "at"] [] (sp_leaf_of er) := ⟨_, _, ok_leaf_of (er := er) F7 D5 D8 D9 (gl_tup (PySem.W.mg_of X G vINS) wINS qINS dINS yINS pINS pd_INS) (PySem.W.mg_none_of X G zint), PySem.W.mg_of X G a7, k7, b7⟩
  have D6 : ∀ j : Nat, DefOk l.prog w K mg base "term_at" (j + 2) ["text", "begin", "at"] [] (sp_term_at er j) := by
    intro j
    induction j with
    | zero => exact ⟨_, _, no_fuel (fun os k kx ⟨x, b, i, l, _, _, _, _, _, h, _⟩ => Nat.not_lt_zero _ h), PySem.W.mg_of X G a6, k6, b6⟩
    | succ j ih => exact ⟨_, _, ok_term_at (er := er) F6 D5 ih D7 (gl_str (PySem.W.mg_of X G vSIGNS)) (PySem.W.mg_none_of X G zlen), PySem.W.mg_of X G a6, k6, b6⟩
  have D4 : DefOk l.prog w K mg base "whole_term" 43 ["text", "at"] [] (sp_whole_term er) := ⟨_, _, ok_whole_term (er := er) F4 D5 (D6 40) (PySem.W.mg_none_of X G zlen), PySem.W.mg_of X G a4, k4, b4⟩
  have D3 : DefOk l.prog w K mg base "read_term" 44 ["text"] [] (sp_read_term er) := ⟨_, _, ok_read_term (er := er) F3 D4, PySem.W.mg_of X G a3, k3, b3⟩
  have D10 : ∀ j : Nat, DefOk l.prog w K mg base "_law_term_text" j ["_law_term"] [] (sp_law_term_text j) := by
    intro j
    induction j with
    | zero => exact ⟨_, _, no_fuel (fun os k kx ⟨t, _, h, _⟩ => Nat.not_lt_zero _ h), PySem.W.mg_of X G a10, k10, b10⟩
    | succ j ih => exact ⟨_, _, ok_law_term_text F10 ih (PySem.W.mg_none_of X G zint) (PySem.W.mg_none_of X G zstr), PySem.W.mg_of X G a10, k10, b10⟩
  have D12 : DefOk l.prog w K mg base "_law_take" 1 ["_law_feed_here", "_law_many"] [0] (sp_law_take) := ⟨_, _, ok_law_take F12 , PySem.W.mg_of X G a12, k12, b12⟩
  have D13 : DefOk l.prog w K mg base "_law_number" 2 ["_law_feed_here"] [0] (sp_law_number) := ⟨_, _, ok_law_number F13 D12, PySem.W.mg_of X G a13, k13, b13⟩
  have D11 : ∀ j : Nat, DefOk l.prog w K mg base "_law_any_term" (j + 2) ["_law_feed_here", "_law_words", "_law_room", "_law_down"] [0, 1] (sp_law_any_term j) := by
    intro j
    induction j with
    | zero => exact ⟨_, _, no_fuel (fun os k kx ⟨a, b, ws, rm, dn, _, _, _, _, _, h, h2, _⟩ => by omega), PySem.W.mg_of X G a11, k11, b11⟩
    | succ j ih => exact ⟨_, _, ok_law_any_term F11 ih D12 D13 (PySem.W.mg_none_of X G zlen), PySem.W.mg_of X G a11, k11, b11⟩
  have D15 : DefOk l.prog w K mg base "_law_kept" 1 [] [] (sp_law_kept) := ⟨_, _, ok_law_kept F15 , PySem.W.mg_of X G a15, k15, b15⟩
  have D14 : DefOk l.prog w K mg base "_law_word" 2 ["_law_feed_here"] [0] (sp_law_word) := ⟨_, _, ok_law_word F14 D15 D12 (PySem.W.mg_none_of X G zrange), PySem.W.mg_of X G a14, k14, b14⟩
  have D16 : DefOk l.prog w K mg base "_law_feed" 1 ["_law_script", "_law_k"] [] (sp_law_feed) := ⟨_, _, ok_law_feed F16 (PySem.W.mg_none_of X G zlen), PySem.W.mg_of X G a16, k16, b16⟩
  have D17 : ∀ j : Nat, DefOk l.prog w K mg base "term_text" j ["term"] [] (sp_term_text j) := by
    intro j
    induction j with
    | zero => exact ⟨_, _, no_fuel (fun os k kx ⟨t, _, h, _⟩ => Nat.not_lt_zero _ h), PySem.W.mg_of X G a17, k17, b17⟩
    | succ j ih => exact ⟨_, _, ok_term_text F17 ih (PySem.W.mg_none_of X G zstr), PySem.W.mg_of X G a17, k17, b17⟩
  exact ok_law (er := er) F1 (D2 20) D3 (D10 20) (D11 10) D14 D16 (D17 20) D12 (PySem.W.mg_none_of X G zrange) (PySem.W.mg_none_of X G zmax) (PySem.W.mg_none_of X G zlen)
end KR
open PySem PySem.W PyProof.Rows
set_option maxRecDepth 100000 in
set_option maxHeartbeats 0 in
theorem PySem.Challenge.cw_twomeant_k06_terms_written_and_read_holds : PySem.Challenge.rw_twomeant_k06_terms_written_and_read.Holds := by
  w_on; o_law; k_head; (case hw => w_witness2)
  k_fill
  refine VL.walkG (l := PySem.Challenge.rw_twomeant_k06_terms_written_and_read) (x := "_law_script") (B := []) (sp := KR.sp_law) (k := 46) rfl (by decide) rfl ⟨rfl, by decide, by decide⟩ (fun w h Y => PySem.W.kIn_of Y) ?F (fun ns hl => ⟨ns, rfl, hl, rfl⟩)
  case F =>
    intro w mg fa h qKX G hmg
    refine' KR.all_parts qKX G hmg ?a1 ?l1 ?c1 ?k1 ?a2 ?l2 ?c2 ?k2 ?a3 ?l3 ?c3 ?k3 ?a4 ?l4 ?c4 ?k4 ?a5 ?l5 ?c5 ?k5 ?a6 ?l6 ?c6 ?k6 ?a7 ?l7 ?c7 ?k7 ?a8 ?l8 ?c8 ?k8 ?a9 ?l9 ?c9 ?k9 ?a10 ?l10 ?c10 ?k10 ?a11 ?l11 ?c11 ?k11 ?a12 ?l12 ?c12 ?k12 ?a13 ?l13 ?c13 ?k13 ?a14 ?l14 ?c14 ?k14 ?a15 ?l15 ?c15 ?k15 ?a16 ?l16 ?c16 ?k16 ?a17 ?l17 ?c17 ?k17 ?vLETTERS ?vMOST_SIGNS ?vKEPT ?wKEPT ?qKEPT ?dKEPT ?yKEPT ?pKEPT ?vSIGNS ?vNUMBER_SIGNS ?vINS ?wINS ?qINS ?dINS ?yINS ?pINS ?zall ?zbool ?zint ?zisinstance ?zlen ?zmax ?zrange ?zstr ?ztuple ?zzip ?xaMeantError ?xiMeantError ?xtMeantError ?xbMeantError ?xaBadText ?xiBadText ?xtBadText ?xbBadText ?xgBadText ?xkBadText ?xhBadText ?xcBadText ?xoBadText ?xmBadText ?xvBadText ?xsBadTextBadText ?xnBadText ?xget ?xtak ?xLBadText ?xMBadText ?xABadText ?xIBadText ?xTBadText ?xFBadText ?xCBadText ?xKBadText
    (case a1 => k_is)
    (case l1 => k_is)
    (case c1 => k_is)
    (case k1 => k_is)
    (case a2 => k_is)
    (case l2 => k_is)
    (case c2 => k_is)
    (case k2 => k_is)
    (case a3 => k_is)
    (case l3 => k_is)
    (case c3 => k_is)
    (case k3 => k_is)
    (case a4 => k_is)
    (case l4 => k_is)
    (case c4 => k_is)
    (case k4 => k_is)
    (case a5 => k_is)
    (case l5 => k_is)
    (case c5 => k_is)
    (case k5 => k_is)
    (case a6 => k_is)
    (case l6 => k_is)
    (case c6 => k_is)
    (case k6 => k_is)
    (case a7 => k_is)
    (case l7 => k_is)
    (case c7 => k_is)
    (case k7 => k_is)
    (case a8 => k_is)
    (case l8 => k_is)
    (case c8 => k_is)
    (case k8 => k_is)
    (case a9 => k_is)
    (case l9 => k_is)
    (case c9 => k_is)
    (case k9 => k_is)
    (case a10 => k_is)
    (case l10 => k_is)
    (case c10 => k_is)
    (case k10 => k_is)
    (case a11 => k_is)
    (case l11 => k_is)
    (case c11 => k_is)
    (case k11 => k_is)
    (case a12 => k_is)
    (case l12 => k_is)
    (case c12 => k_is)
    (case k12 => k_is)
    (case a13 => k_is)
    (case l13 => k_is)
    (case c13 => k_is)
    (case k13 => k_is)
    (case a14 => k_is)
    (case l14 => k_is)
    (case c14 => k_is)
    (case k14 => k_is)
    (case a15 => k_is)
    (case l15 => k_is)
    (case c15 => k_is)
    (case k15 => k_is)
    (case a16 => k_is)
    (case l16 => k_is)
    (case c16 => k_is)
    (case k16 => k_is)
    (case a17 => k_is)
    (case l17 => k_is)
    (case c17 => k_is)
    (case k17 => k_is)
    (case vLETTERS => k_is)
    (case vMOST_SIGNS => k_is)
    (case vKEPT => k_is)
    (case wKEPT => k_is)
    (case qKEPT => rfl)
    (case dKEPT => rfl)
    (case yKEPT => decide)
    (case pKEPT => exact .cons ⟨_, rfl⟩ (.cons ⟨_, rfl⟩ (.cons ⟨_, rfl⟩ (.cons ⟨_, rfl⟩ (.cons ⟨_, rfl⟩ (.cons ⟨_, rfl⟩ (.cons ⟨_, rfl⟩ (.cons ⟨_, rfl⟩ (.nil)))))))))
    (case vSIGNS => k_is)
    (case vNUMBER_SIGNS => k_is)
    (case vINS => k_is)
    (case wINS => k_is)
    (case qINS => rfl)
    (case dINS => rfl)
    (case yINS => decide)
    (case pINS => exact .cons ⟨_, rfl⟩ (.cons ⟨_, rfl⟩ (.cons ⟨_, rfl⟩ (.nil))))
    (case zall => k_is)
    (case zbool => k_is)
    (case zint => k_is)
    (case zisinstance => k_is)
    (case zlen => k_is)
    (case zmax => k_is)
    (case zrange => k_is)
    (case zstr => k_is)
    (case ztuple => k_is)
    (case zzip => k_is)
    (case xaMeantError => k_is)
    (case xiMeantError => k_is)
    (case xtMeantError => k_is)
    (case xbMeantError => k_is)
    (case xaBadText => k_is)
    (case xiBadText => k_is)
    (case xtBadText => k_is)
    (case xbBadText => k_is)
    (case xgBadText => k_is)
    (case xkBadText => k_is)
    (case xhBadText => k_is)
    (case xcBadText => k_is)
    (case xoBadText => k_is)
    (case xmBadText => k_is)
    (case xvBadText => k_is)
    (case xsBadTextBadText => k_is)
    (case xnBadText => k_is)
    (case xget => k_is)
    (case xtak => k_is)
    (case xLBadText => k_is)
    (case xMBadText => decide +kernel)
    (case xABadText => k_is)
    (case xIBadText => k_is)
    (case xTBadText => k_is)
    (case xFBadText => k_is)
    (case xCBadText => k_is)
    (case xKBadText => k_is)

