import PyProof.Rows.All
import Wide.All
import OpenK.AllK
import Wide.FinOn
import HandS.ForMost
import HandS.ForExc
import HandS.Strs
import HandS.Deep
import HandS.IsInst
import HandS.Conv
import HandS.Wide
import HandS.WideBits
import HandS.SortInts
import HandS.SetFor
import HandS.CallLocal
import HandS.Flow
import HandS.Style
import HandS.Zip
import HandS.Rev
import HandS.ExcOwn
import HandS.EndBits
import HandS.DictComp
import HandS.Small
import HandS.Set
import PyProof.ReprRoads
import PySem.Challenge.RW_keptathand_k27_whole_logs_and_guesses
set_option Elab.async false
set_option linter.all false
set_option maxRecDepth 100000
/-! TL1: values as trees, environments of slots, the invariant RE, steps. -/
namespace TL
open PySem PySem.Spec L2

/-- a value as a tree -/
inductive T where
  | non | bl (b : Bool) | int (i : Int) | str (x : Str) | lst (xs : List T) | tup (xs : List T)
  | dct (ks : List Key) (vs : List T) | set (S : List Int) | fn (a : Addr) | scr (xs : List T) | ty (n : String)

def KTup (K : PySem.W.Frag) (a : Addr) (xs : List V) : Prop :=
  ∃ (o : Obj) (its : Array Value) (n : Nat), K.lookup a = some o ∧ o.cls = .type "tuple" ∧ o.data = .seq its n ∧ its.size ≤ sizeLine ∧ Vals xs its.toList
def KLst (K : PySem.W.Frag) (a : Addr) (xs : List V) : Prop :=
  ∃ (o : Obj) (its : Array Value) (n : Nat), K.lookup a = some o ∧ o.cls = .type "list" ∧ o.dict = none ∧ o.data = .seq its n ∧ its.size ≤ sizeLine ∧ Vals xs its.toList
/-- a list that is only read -/
def FS (K : PySem.W.Frag) (O : List Addr) (H : Hp) (a : Addr) (xs : List V) : Prop := (∃ o, H a = some (.frz o (.lst xs)) ∧ a ∉ O) ∨ KLst K a xs
theorem FS.sq {K : PySem.W.Frag} {O : List Addr} {H : Hp} {a : Addr} {xs : List V} (h : FS K O H a xs) : SqL K H a xs := by
  rcases h with ⟨o, h, _⟩ | h
  · exact .inl (.inr ⟨o, h⟩)
  · exact .inr h
def FT (K : PySem.W.Frag) (O : List Addr) (H : Hp) (a : Addr) (xs : List V) : Prop := (H a = some (.tup xs) ∧ a ∉ O) ∨ KTup K a xs
theorem FT.sq {K : PySem.W.Frag} {O : List Addr} {H : Hp} {a : Addr} {xs : List V} (h : FT K O H a xs) : SqT K H a xs := by
  rcases h with ⟨h, _⟩ | h
  · exact .inl (.inl h)
  · exact .inr h

/-- what is fixed through a body -/
structure C where
  K : PySem.W.Frag
  w : World
  H0 : Hp
  g : Option Addr
  OO : List Addr
  WT : Str → T → Prop

/-- a set of ints at a -/
def SetIs (w : World) (H : Hp) (a : Addr) (S : List Int) : Prop :=
  S.Pairwise (· < ·) ∧ ∃ f, (∀ k, k ∈ S ↔ f k = true) ∧ H a = some (SetO w a f S.length)

section
variable (K : PySem.W.Frag) (w : World) (O : List Addr) (H : Hp)
mutual
def Rep : T → V → Prop
  | .non, v => v = .non
  | .bl b, v => v = .bl b
  | .int i, v => v = .int i
  | .str x, v => v = .str x
  | .lst ts, v => ∃ a vs, v = .ref a ∧ a ∉ O ∧ H a = some (.lst vs) ∧ Reps ts vs
  | .tup ts, v => ∃ a vs, v = .ref a ∧ FT K O H a vs ∧ Reps ts vs
  | .dct ks ts, v => ∃ a kvs, v = .ref a ∧ a ∉ O ∧ H a = some (.dK kvs) ∧ kvs.map (·.1) = ks ∧ Reps ts (kvs.map (·.2))
  | .set S, v => ∃ a, v = .ref a ∧ a ∉ O ∧ SetIs w H a S
  | .fn a, v => v = .ref a
  | .ty n, v => v = .ty n
  | .scr ts, v => ∃ a vs, v = .ref a ∧ FS K O H a vs ∧ Reps ts vs
def Reps : List T → List V → Prop
  | [], vs => vs = []
  | t :: ts, vs => ∃ v r, vs = v :: r ∧ Rep t v ∧ Reps ts r
end
/-- an object of one's own: its items are frozen -/
def Own : T → Addr → Prop
  | .lst ts, a => ∃ vs, H a = some (.lst vs) ∧ Reps K w O H ts vs
  | .dct ks ts, a => ∃ kvs, H a = some (.dK kvs) ∧ kvs.map (·.1) = ks ∧ Reps K w O H ts (kvs.map (·.2))
  | .set S, a => SetIs w H a S
  | _, _ => False
/-- a value that may be read -/
def BRep (t : T) (v : V) : Prop := Rep K w O H t v ∨ ∃ a, v = .ref a ∧ Own K w O H t a
end

/-! ### carrying -/
def Car (O : List Addr) (H : Hp) (O' : List Addr) (H' : Hp) : Prop := ∀ p o, H p = some o → p ∉ O → H' p = some o ∧ p ∉ O'
section
variable {K : PySem.W.Frag} {w : World} {O O' : List Addr} {H H' : Hp}
theorem FS.car (c : Car O H O' H') {a : Addr} {xs : List V} (h : FS K O H a xs) : FS K O' H' a xs := by
  rcases h with ⟨o, h, n⟩ | h
  · exact .inl ⟨o, (c _ _ h n).1, (c _ _ h n).2⟩
  · exact .inr h
theorem FT.car (c : Car O H O' H') {a : Addr} {xs : List V} (h : FT K O H a xs) : FT K O' H' a xs := by
  rcases h with ⟨h, n⟩ | h
  · exact .inl ⟨(c _ _ h n).1, (c _ _ h n).2⟩
  · exact .inr h
mutual
theorem Rep.car (c : Car O H O' H') : ∀ (t : T) (v : V), Rep K w O H t v → Rep K w O' H' t v
  | .non, v, h => by unfold Rep at h ⊢; exact h
  | .bl b, v, h => by unfold Rep at h ⊢; exact h
  | .int i, v, h => by unfold Rep at h ⊢; exact h
  | .str x, v, h => by unfold Rep at h ⊢; exact h
  | .fn x, v, h => by unfold Rep at h ⊢; exact h
  | .ty x, v, h => by unfold Rep at h ⊢; exact h
  | .lst ts, v, h => by
    unfold Rep at h ⊢
    obtain ⟨a, vs, e, n, q, r⟩ := h
    exact ⟨a, vs, e, (c _ _ q n).2, (c _ _ q n).1, Reps.car c ts vs r⟩
  | .scr ts, v, h => by
    unfold Rep at h ⊢
    obtain ⟨a, vs, e, q, r⟩ := h
    exact ⟨a, vs, e, q.car c, Reps.car c ts vs r⟩
  | .tup ts, v, h => by
    unfold Rep at h ⊢
    obtain ⟨a, vs, e, f, r⟩ := h
    exact ⟨a, vs, e, f.car c, Reps.car c ts vs r⟩
  | .dct ks ts, v, h => by
    unfold Rep at h ⊢
    obtain ⟨a, kvs, e, n, q, k, r⟩ := h
    exact ⟨a, kvs, e, (c _ _ q n).2, (c _ _ q n).1, k, Reps.car c ts _ r⟩
  | .set S, v, h => by
    unfold Rep at h ⊢
    obtain ⟨a, e, n, s, f, k, q⟩ := h
    exact ⟨a, e, (c _ _ q n).2, s, f, k, (c _ _ q n).1⟩
theorem Reps.car (c : Car O H O' H') : ∀ (ts : List T) (vs : List V), Reps K w O H ts vs → Reps K w O' H' ts vs
  | [], vs, h => by unfold Reps at h ⊢; exact h
  | t :: ts, vs, h => by
    unfold Reps at h ⊢
    obtain ⟨v, r, e, a, b⟩ := h
    exact ⟨v, r, e, Rep.car c t v a, Reps.car c ts r b⟩
end
theorem Reps.nil : Reps K w O H [] [] := by unfold Reps; rfl
theorem Reps.cons {t : T} {ts : List T} {v : V} {vs : List V} (a : Rep K w O H t v) (b : Reps K w O H ts vs) : Reps K w O H (t :: ts) (v :: vs) := by
  unfold Reps; exact ⟨v, vs, rfl, a, b⟩
theorem Reps.len : ∀ {ts : List T} {vs : List V}, Reps K w O H ts vs → ts.length = vs.length
  | [], vs, h => by unfold Reps at h; subst h; rfl
  | t :: ts, vs, h => by
    unfold Reps at h
    obtain ⟨v, r, e, a, b⟩ := h
    subst e
    simp [b.len]
theorem Reps.get : ∀ {ts : List T} {vs : List V} {i : Nat} {t : T}, Reps K w O H ts vs → ts[i]? = some t → ∃ v, vs[i]? = some v ∧ Rep K w O H t v
  | [], _, _, _, _, e => by simp at e
  | t :: ts, vs, 0, u, h, e => by
    unfold Reps at h
    obtain ⟨v, r, e1, a, b⟩ := h
    subst e1
    simp at e; subst e
    exact ⟨v, rfl, a⟩
  | t :: ts, vs, i + 1, u, h, e => by
    unfold Reps at h
    obtain ⟨v, r, e1, a, b⟩ := h
    subst e1
    obtain ⟨v', h1, h2⟩ := b.get (i := i) (by simpa using e)
    exact ⟨v', by simpa using h1, h2⟩
theorem Reps.get_none {ts : List T} {vs : List V} {i : Nat} (h : Reps K w O H ts vs) (e : ts[i]? = none) : vs[i]? = none := by
  have := h.len
  rw [List.getElem?_eq_none_iff] at e ⊢
  omega
theorem Reps.append : ∀ {ts us : List T} {vs ws : List V}, Reps K w O H ts vs → Reps K w O H us ws → Reps K w O H (ts ++ us) (vs ++ ws)
  | [], us, vs, ws, h, g => by unfold Reps at h; subst h; simpa using g
  | t :: ts, us, vs, ws, h, g => by
    unfold Reps at h
    obtain ⟨v, r, e, a, b⟩ := h
    subst e
    exact Reps.cons a (b.append g)
theorem Reps.drop : ∀ {ts : List T} {vs : List V} (n : Nat), Reps K w O H ts vs → Reps K w O H (ts.drop n) (vs.drop n)
  | ts, vs, 0, h => by simpa using h
  | [], vs, n + 1, h => by unfold Reps at h; subst h; simpa using Reps.nil
  | t :: ts, vs, n + 1, h => by
    unfold Reps at h
    obtain ⟨v, r, e, a, b⟩ := h
    subst e
    simpa using b.drop n
theorem Reps.take : ∀ {ts : List T} {vs : List V} (n : Nat), Reps K w O H ts vs → Reps K w O H (ts.take n) (vs.take n)
  | ts, vs, 0, h => by simpa using Reps.nil
  | [], vs, n + 1, h => by unfold Reps at h; subst h; simpa using Reps.nil
  | t :: ts, vs, n + 1, h => by
    unfold Reps at h
    obtain ⟨v, r, e, a, b⟩ := h
    subst e
    simpa using Reps.cons a (b.take n)
theorem Reps.set {u : T} {x : V} (hu : Rep K w O H u x) : ∀ {ts : List T} {vs : List V} (n : Nat), Reps K w O H ts vs → Reps K w O H (ts.set n u) (vs.set n x)
  | [], vs, n, h => by unfold Reps at h; subst h; simpa using Reps.nil
  | t :: ts, vs, 0, h => by
    unfold Reps at h
    obtain ⟨v, r, e, a, b⟩ := h
    subst e
    simpa using Reps.cons hu b
  | t :: ts, vs, n + 1, h => by
    unfold Reps at h
    obtain ⟨v, r, e, a, b⟩ := h
    subst e
    simpa using Reps.cons a (b.set hu n)
theorem Reps.eraseIdx : ∀ {ts : List T} {vs : List V} (n : Nat), Reps K w O H ts vs → Reps K w O H (ts.eraseIdx n) (vs.eraseIdx n)
  | [], vs, n, h => by unfold Reps at h; subst h; simpa using Reps.nil
  | t :: ts, vs, 0, h => by
    unfold Reps at h
    obtain ⟨v, r, e, a, b⟩ := h
    subst e
    simpa using b
  | t :: ts, vs, n + 1, h => by
    unfold Reps at h
    obtain ⟨v, r, e, a, b⟩ := h
    subst e
    simpa using Reps.cons a (b.eraseIdx n)
theorem Reps.reverse : ∀ {ts : List T} {vs : List V}, Reps K w O H ts vs → Reps K w O H ts.reverse vs.reverse
  | [], vs, h => by unfold Reps at h; subst h; simpa using Reps.nil
  | t :: ts, vs, h => by
    unfold Reps at h
    obtain ⟨v, r, e, a, b⟩ := h
    subst e
    simpa using b.reverse.append (Reps.cons a Reps.nil)
theorem Own.car (c : Car O H O' H') {t : T} {a : Addr} (ha : ∀ o, H a = some o → H' a = some o) (h : Own K w O H t a) : Own K w O' H' t a := by
  cases t with
  | lst ts => obtain ⟨vs, e, r⟩ := h; exact ⟨vs, ha _ e, r.car c⟩
  | dct ks ts => obtain ⟨kvs, e, k, r⟩ := h; exact ⟨kvs, ha _ e, k, r.car c⟩
  | set S => obtain ⟨s, f, k, e⟩ := h; exact ⟨s, f, k, ha _ e⟩
  | non => exact h.elim
  | bl b => exact h.elim
  | int i => exact h.elim
  | str x => exact h.elim
  | tup ts => exact h.elim
  | fn a => exact h.elim
  | scr ts => exact h.elim
  | ty n => exact h.elim
theorem Own.some {t : T} {a : Addr} (h : Own K w O H t a) : H a ≠ Option.none := by
  cases t with
  | lst ts => obtain ⟨vs, e, r⟩ := h; rw [e]; exact fun z => nomatch z
  | dct ks ts => obtain ⟨kvs, e, k, r⟩ := h; rw [e]; exact fun z => nomatch z
  | set S => obtain ⟨s, f, k, e⟩ := h; rw [e]; exact fun z => nomatch z
  | non => exact h.elim
  | bl b => exact h.elim
  | int i => exact h.elim
  | str x => exact h.elim
  | tup ts => exact h.elim
  | fn a => exact h.elim
  | scr ts => exact h.elim
  | ty n => exact h.elim
/-- an object of one's own that is no longer one's own -/
theorem Own.rep {t : T} {a : Addr} (n : a ∉ O) (h : Own K w O H t a) : Rep K w O H t (.ref a) := by
  cases t with
  | lst ts => obtain ⟨vs, e, r⟩ := h; unfold Rep; exact ⟨a, vs, rfl, n, e, r⟩
  | dct ks ts => obtain ⟨kvs, e, k, r⟩ := h; unfold Rep; exact ⟨a, kvs, rfl, n, e, k, r⟩
  | set S => unfold Rep; exact ⟨a, rfl, n, h⟩
  | non => exact h.elim
  | bl b => exact h.elim
  | int i => exact h.elim
  | str x => exact h.elim
  | tup ts => exact h.elim
  | fn a => exact h.elim
  | scr ts => exact h.elim
  | ty n => exact h.elim
theorem Rep.b {t : T} {v : V} (h : Rep K w O H t v) : BRep K w O H t v := .inl h
end

end TL

set_option Elab.async false
set_option linter.all false
set_option maxRecDepth 100000
/-! TG: defs called where no repr is under way. -/
namespace TL
open PySem PySem.Spec L2

structure RoomG (k : Nat) (A : Around) : Prop extends Room k A where
  gd : A.guards = some []
theorem RoomG.monoG {j k : Nat} {A : Around} (r : RoomG k A) (h : j ≤ k) : RoomG j A := ⟨r.toRoom.mono h, r.gd⟩
theorem RoomG.deeperG {k : Nat} {A : Around} (r : RoomG (k + 1) A) (env : Env) : RoomG k (A.deeper env) := ⟨r.toRoom.deeper env, r.gd⟩
structure FnOkG (P : Program) (w : World) (K : PySem.W.Frag) (mg : Str → Option Value) (base : Heap) (CX : CXT) (k : Nat) (f : Addr) (fd : FuncData) (ps : List Str) (sp : Sp) : Prop where
  len : ∀ vs H Q E, sp vs H Q E → vs.length = ps.length
  run : ∀ (A : Around) (outer : List Env) (s : Shared) (H : Hp) (args : Args) (us : List Value) (vs : List V) (Q : VK) (E : XK), RoomG k A → Env0 P w K mg base A outer s H → BindsTo s fd args (ps.zip us) → Vals vs us → sp vs H Q E →
    codeAny (model P w) A (.call (.ref f) args) (CR CX outer P w H s Q E) s
theorem FnOkG.mono {P : Program} {w : World} {K : PySem.W.Frag} {mg : Str → Option Value} {base : Heap} {CX : CXT} {j k : Nat} {f : Addr} {fd : FuncData} {ps : List Str} {sp : Sp} (F : FnOkG P w K mg base CX j f fd ps sp) (h : j ≤ k) :
    FnOkG P w K mg base CX k f fd ps sp := ⟨F.len, fun A outer s H args us vs Q E hr => F.run A outer s H args us vs Q E (hr.monoG h)⟩
theorem FnOkG.imp {P : Program} {w : World} {K : PySem.W.Frag} {mg : Str → Option Value} {base : Heap} {CX : CXT} {k : Nat} {f : Addr} {fd : FuncData} {ps : List Str} {sp sp' : Sp} (F : FnOkG P w K mg base CX k f fd ps sp)
    (h : ∀ vs H Q E, sp' vs H Q E → sp vs H Q E) : FnOkG P w K mg base CX k f fd ps sp' :=
  ⟨fun vs H Q E q => F.len vs H Q E (h _ _ _ _ q), fun A outer s H args us vs Q E hr he hb hv hs => F.run A outer s H args us vs Q E hr he hb hv (h _ _ _ _ hs)⟩

section
variable {X : Cx} {CX : CXT} {k : Nat} {f : Addr} {fd : FuncData} {ps : List Str} {sp : Sp} {x : Str} {p pos : Pos} {e : Expr} {es : List Expr} {t : TA}
/-- a call's end, for what stands behind it -/
theorem afterG {pins : List (Addr × Obj)} {σ : St} {H : Hp} {s : Shared} {Q : VK} {E : XK} (I : Inv X pins σ H s) (hx : ∀ e s', CX X.stack H s E e s' → X.xe e s') {r : Result} {s' : Shared}
    (h : CR CX X.stack X.prog X.w H s Q E r s') : callEnd (EP X pins σ Q) X.xe r s' := by
  cases r with
  | error e => exact hx e s' h
  | ok fl =>
    cases fl with
    | ret u => exact I.after h
    | next => exact False.elim h
    | brk => exact False.elim h
    | cont => exact False.elim h
theorem pe_callG {E : St → XK} (F : FnOkG X.prog X.w X.K X.mg X.base CX k f fd ps sp) (hr : RoomG k X.A) (hg : Gl X x) (hm : X.mg x = some (.ref f)) (hk : PySem.W.keepIn X.K (.ref f) = true) (hb : Binds X.K fd ps []) (hx : ∀ σ, PassesAt CX X σ (E σ))
    (ha : PA X (e :: es) t) (hdb : (x == ("__debug__" : Str)) = false := by decide) (he : starEach (e :: es) X.env = (false, eval e X.env) :: starEach es X.env := by rfl) (hpl : (backTo pos (starEach es X.env)).any (·.1) = false := by rfl) :
    PE X (.Call (.Name x p) (e :: es) [] pos) (tCallS sp E t) := by
  refine ⟨fun pins s σ H Q I h => wpAny_Call_Name_kw (ld_glob I hg hm ?_ hdb)⟩
  refine PySem.W.callWith_K (h₀ := X.base) I.ok.mod.kin hk (thn (ha.run pos pins s σ H _ I h) fun us s1 ⟨vs, H1, I1, r, q⟩ => ⟨I1.kIn, ?_⟩) he hpl
  have hl : us.length = ps.length := by rw [← r.length]; exact F.len _ _ _ _ q
  have b := hb s1 us I1.kIn (by rw [List.append_nil]; exact hl)
  rw [List.append_nil] at b
  exact wpAny_call (codeAny_mono (F.run X.A X.stack s1 H1 ⟨us, []⟩ us vs Q (E σ) hr I1.env0 b r q) fun r s' hq => afterG I1 (fun e s' c => hx σ pins H1 s1 e s' I1 c) hq)
end

section
variable {P : Program} {w : World} {K : PySem.W.Frag} {mg : Str → Option Value} {base : Heap}
theorem okG {x qual : Str} {st : Stmt} {f : Addr} {fd : FuncData} {N ps : List Str} {k : Nat} {sp : Sp} (F : Fun K x qual st f fd) (S : FnScope N ps (defScope st)) (len : ∀ vs H Q E, sp vs H Q E → vs.length = ps.length)
    (hbody : ∀ (cdv : Value) (A : Around) (outer : List Env) (s : Shared) (H : Hp) (vs : List V) (Q : VK) (E : XK), RoomG k (A.deeper (PyProof.Rows.envOfC qual (defScope st) s.heap.objs.size f cdv)) → sp vs H Q E →
      ∃ t, PSs (cxOf (L2.CX P w) P w K mg base N qual (defScope st) f cdv A outer s H E) (defBody st) t ∧ t { nx := fun _ H' => Q .non H', rt := Q } (start N vs) H) : FnOkG P w K mg base (L2.CX P w) (k + 1) f fd ps sp := by
  obtain ⟨oc, od, kV, doc, pm, an, cdv, ct, osl, rfl, lk, hcd⟩ := F.ex
  refine ⟨len, fun A outer s H args us vs Q E hr e0 hb r hsp => ?_⟩
  have hl := len _ _ _ _ hsp
  have KX : K.In s.heap := e0.mod.kin.keeps fun b o e => (e0.bs b o e).1
  refine codeAny_call_function hr.toRoom.depth (KX _ _ lk) rfl S.co S.gen rfl (PySem.W.codeRec_of KX hcd) (hb _ _ _ _ ?_)
  refine wpAny_newFunctionEnv_cells S.kind (fun y hy => ?_) fun env he s1 z => ?_
  · rcases S.par y.1 (List.of_mem_zip hy).1 with q | q
    · exact .inl q
    · exact .inr ⟨q, PySem.W.cellsFrom_some _ _ _ (.inl q)⟩
  · subst he
    refine ⟨(e0.mod.nolimit.keeps fun b o e => (e0.bs b o e).1).keeps z.toInCall.keep, codeAny_func ?_⟩
    obtain ⟨t, ht, hq⟩ := hbody cdv A outer s H vs Q E (hr.deeperG _) hsp
    refine wpAny_mono (ht.run [] s1 (start N vs) H _ (inv_start S hr.hd e0 hl r z) hq) (fun fl s' hs => ?_) fun e s' hs => hs
    cases fl with
    | ret u =>
      obtain ⟨v, σ', H', J, rv, q⟩ := hs
      exact ⟨v, H', J.os, J.bare, J.base, J.hok, rv, q⟩
    | next =>
      obtain ⟨σ', H', J, q⟩ := hs
      exact ⟨.non, H', J.os, J.bare, J.base, J.hok, rfl, q⟩
    | brk => obtain ⟨_, _, _, q⟩ := hs; exact q.elim
    | cont => obtain ⟨_, _, _, q⟩ := hs; exact q.elim
end
end TL
namespace TL
open PySem PySem.Spec L2 PyProof.Rows
/-- what is tracked at the head: the script, if the module does not hold it -/
def scrH (K : PySem.W.Frag) (a : Addr) (o : Obj) (xs : List V) : Hp := fun b => if b = a ∧ K.lookup a = none then some (.frz o (.lst xs)) else none
theorem scrH_ne {K : PySem.W.Frag} {a b : Addr} {o : Obj} {xs : List V} (h : scrH K a o xs b ≠ none) : b = a ∧ K.lookup a = none := by
  unfold scrH at h
  by_cases z : b = a ∧ K.lookup a = none
  · exact z
  · rw [if_neg z] at h; exact (h rfl).elim
theorem scrH_some {K : PySem.W.Frag} {a b : Addr} {o : Obj} {xs : List V} {u : HO} (h : scrH K a o xs b = some u) : b = a ∧ K.lookup a = none ∧ u = .frz o (.lst xs) := by
  have z := scrH_ne (K := K) (a := a) (b := b) (o := o) (xs := xs) (by rw [h]; exact fun e => nomatch e)
  unfold scrH at h
  rw [if_pos z] at h
  exact ⟨z.1, z.2, by cases h; rfl⟩
theorem law_callG {P : Program} {w : World} {K : PySem.W.Frag} {mg mb : Str → Option Value} {CX : CXT} {k : Nat} {fa a : Addr} {fd : FuncData} {x : Str} {sp : Sp} {s : Shared} {vs : List Value} {ns : List Int}
    (KX : K.In s.heap) (hns : s.heap.Ns mainGlobals mg) (hb : s.heap.Ns builtinsNs mb) (hbb : ∀ x : Str, x ≠ "__name__" → mb x = bootBuiltins x) (hlim : s.heap.NoLimit) (hg : s.gens = #[])
    (ha : s.heap.get? a = some { cls := .type "list", data := .seq vs.toArray }) (hi : IntsAre vs ns) (hl : ns.length ≤ sizeLine) (hr : Room k callerA)
    (F : ∀ base : Heap, K.In base → base.Ns mainGlobals mg → FnOkG P w K mg base CX k fa fd [x] sp) (hbind : ∀ (s : Shared) (u : Value), BindsTo s fd ⟨[u], []⟩ [(x, u)])
    (hsp : ∀ H : Hp, Only H → SqL K H a (ns.map V.int) → sp [.ref a] H (fun v _ => v = .bl true) fun _ _ _ => False)
    (hCX : ∀ H e s', CX [] H s (fun _ _ _ => False) e s' → False) :
    codeAny (model P w) callerA (.call (.ref fa) ⟨[.ref a], []⟩) (fun r s' => r = .ok (.ret (.bool true)) ∧ OldK s.heap s'.heap ∧ s'.os = s.os ∧ AllBare s'.gens) s := by
  have rv := vals_ints hi
  let o : Obj := { cls := .type "list", data := .seq vs.toArray }
  let H : Hp := scrH K a o (ns.map V.int)
  have hH : ∀ {b : Addr} {u : HO}, H b = some u → b = a ∧ K.lookup a = none ∧ u = .frz o (.lst (ns.map V.int)) := scrH_some
  -- what is not the script stays seen
  have see : ∀ {b : Addr} {q : Obj}, s.heap.get? b = some q → (b = a → K.lookup a ≠ none) → (hidT s.heap H).get? b = some q := fun {b q} e n => hidT_get e (by
    cases z : H b with
    | none => rfl
    | some u => exact ((n (hH z).1) (hH z).2.1).elim)
  have nsK : ∀ {b : Addr} {m : Str → Option Value}, s.heap.Ns b m → (hidT s.heap H).Ns b m := fun {b m} ⟨q, es, ep, e, d, r⟩ => ⟨q, es, ep, see e (fun z => by
    subst z
    rw [ha] at e
    cases e
    have d' : Data.seq vs.toArray _ = Data.dict es ep := d
    cases d'), d, r⟩
  have hKb : K.In (hidT s.heap H) := fun b q e => see (KX b q e) fun z => by subst z; rw [e]; exact fun z => nomatch z
  have M : Mod K mg (hidT s.heap H) := ⟨hKb, nsK hns, ⟨mb, nsK hb, hbb⟩, let ⟨mc, h1, h2⟩ := hlim; ⟨mc, nsK h1, h2⟩⟩
  have hok : HOk P w H s.heap := fun b u z => by
    obtain ⟨e1, e2, e3⟩ := hH z
    subst e1 e3
    exact ⟨ha, by rw [List.length_map]; exact hl, vs, _, rv, ha⟩
  have hO : Only H := fun b => by
    cases z : H b with
    | none => exact .inl rfl
    | some u => exact .inr ⟨_, _, by rw [(hH z).2.2]⟩
  have hS : SqL K H a (ns.map V.int) := by
    cases hk : K.lookup a with
    | none => exact .inl (.inr ⟨o, if_pos ⟨rfl, hk⟩⟩)
    | some q =>
      have e := KX a q hk
      rw [ha] at e
      cases e
      exact .inr ⟨_, vs.toArray, _, hk, rfl, rfl, rfl, by rw [List.size_toArray, hi.length]; exact hl, by simpa using rv⟩
  have e0 : Env0 P w K mg (hidT s.heap H) callerA [] s H := ⟨rfl, M, fun b q e => of_hidT e, Nat.le_of_eq (hidT_size _ _), trivial, fun b hb => absurd (show b ∈ ([] : List Addr) from hb) (by simp), hok, .of_eq hg⟩
  refine codeAny_mono ((F _ hKb (nsK hns)).run callerA [] s H ⟨[.ref a], []⟩ [.ref a] [.ref a] _ _ ⟨hr, rfl⟩ e0 (hbind s (.ref a)) (.cons rfl .nil) (hsp H hO hS)) fun r s' h => ?_
  match r, h with
  | .error e, h => exact (hCX H e s' h).elim
  | .ok .next, h => exact False.elim h
  | .ok .brk, h => exact False.elim h
  | .ok .cont, h => exact False.elim h
  | .ok (.ret u), h =>
    obtain ⟨v, H', os, bare, un, hok', r', q⟩ := h
    cases (show v = .bl true from q)
    cases (show u = Value.bool true from r')
    refine ⟨rfl, OldK.of_keep fun b t e => ?_, os, bare⟩
    cases z : H b with
    | none => exact un.keep b t e z (by intro y; exact absurd (show b ∈ ([] : List Addr) from y) (by simp)) (by simp)
    | some u =>
      have z1 := z
      obtain ⟨_, _, e3⟩ := hH z
      subst e3
      obtain ⟨e1, _⟩ := hok b _ z1
      obtain ⟨e2, _⟩ := hok' b _ (un.frzs b o _ z1)
      rw [e] at e1; cases e1
      exact e2
theorem walk_ofG {l : PySem.W.OpenLaw} {n k : Nat} {q : Program} {loose : List Str} {XP : (Str → Option Value) → Heap → Prop} {YP : World → Heap → Prop} {d : DefRec} {K : Params → PySem.W.Frag} {CX : World → CXT} {sp : World → Sp} {x : Str}
    (hn : l.most = some n) (hn2 : n ≤ sizeLine) (hdf : d.params.defaults = []) (hr : Room k callerA)
    (hY : ∀ (w : World) (h : Heap), YP w h → (K w.params).In h)
    (F : ∀ (w : World) (mg : Str → Option Value) (fa : Addr) (h : Heap), (K w.params).In h → h.Ns mainGlobals mg → mg d.name = some (.ref fa) →
      ∃ fd : FuncData, (∀ (s : Shared) (u : Value), BindsTo s fd ⟨[u], []⟩ [(x, u)]) ∧
        ∀ base : Heap, (K w.params).In base → base.Ns mainGlobals mg → FnOkG l.prog w (K w.params) mg base (CX w) k fa fd [x] (sp w))
    (hsp : ∀ (w : World) (H : Hp) (a : Addr) (ns : List Int), ns.length ≤ n → (∀ z ∈ ns, Builtin.Int.intBits z ≤ 1048576) → Only H → SqL (K w.params) H a (ns.map V.int) → sp w [.ref a] H (fun v _ => v = .bl true) fun _ _ _ => False)
    (hCX : ∀ (w : World) (H : Hp) (s : Shared) (e : Value) (s' : Shared), CX w [] H s (fun _ _ _ => False) e s' → False) :
    PySem.W.WalkO q loose XP YP l.row.toRowW d [] (fun f vs => PySem.call f vs) := by
  refine Att.attach_callB hn hdf fun w s₀ s₁ mg mb fa o pm cd doc a vs ns G Y ho hd hcd hmg hobj hints hlen hbits hg => ?_
  obtain ⟨fd, hb, hF⟩ := F w mg fa _ (hY w _ Y) G.T.g hmg
  exact law_callG (hY w _ Y) G.T.g G.T.b G.T.builtins G.T.nolimit hg hobj hints (Nat.le_trans hlen hn2) hr hF hb (fun H hO hS => hsp w H a ns hlen hbits hO hS) fun H e s' => hCX w H s₁ e s'
end TL

set_option Elab.async false
set_option linter.all false
set_option maxRecDepth 100000
/-! TL2: pure expressions: what they yield, over trees. -/
namespace TL
open PySem PySem.Spec L2

abbrev Sg := List (Option V)
/-- what the slots hold (none: not to be read) -/
abbrev PEv := List (Option T)
inductive PR (α : Type) where
  | ok (a : α) | ex (k : Str) (t : T) | bad
def PR.bind {α β : Type} (r : PR α) (f : α → PR β) : PR β := match r with
  | .ok a => f a
  | .ex k t => .ex k t
  | .bad => .bad
def PR.of {α : Type} : Option α → PR α
  | some a => .ok a
  | none => .bad
@[simp] theorem PR.bind_ok {α β : Type} (a : α) (f : α → PR β) : (PR.ok a).bind f = f a := rfl
@[simp] theorem PR.bind_ex {α β : Type} (k : Str) (t : T) (f : α → PR β) : (PR.ex k t).bind f = .ex k t := rfl
@[simp] theorem PR.bind_bad {α β : Type} (f : α → PR β) : (PR.bad).bind f = .bad := rfl
@[simp] theorem PR.of_some {α : Type} (a : α) : PR.of (some a) = .ok a := rfl
@[simp] theorem PR.of_none {α : Type} : PR.of (none : Option α) = .bad := rfl

structure PRel (c : C) (O : List Addr) (H : Hp) (σ : Sg) (ρ : PEv) : Prop where
  len : σ.length = ρ.length
  get : ∀ (i : Nat) t, ρ[i]? = some (some t) → ∃ x, σ[i]? = some (some x) ∧ Rep c.K c.w O H t x
  trk : ∀ a ∈ O, H a ≠ none
  fr : ∀ p o, c.H0 p = some o → c.g ≠ some p → H p = some o
  ou : ∀ a ∈ c.OO, a ∈ O
def C.nox (c : C) : C := { c with WT := fun _ _ => False, OO := [] }

section
variable {K : PySem.W.Frag} {w : World} {c : C} {O : List Addr} {H H' H2 : Hp} {σ : Sg} {ρ : PEv}
theorem car_same (s : Same H H') : Car O H O H' := fun p o e n => ⟨s _ _ e, n⟩
theorem Rep.same (s : Same H H') {t : T} {v : V} (h : Rep K w O H t v) : Rep K w O H' t v := Rep.car (car_same s) t v h
theorem Reps.same (s : Same H H') {t : List T} {v : List V} (h : Reps K w O H t v) : Reps K w O H' t v := Reps.car (car_same s) t v h
theorem same_ne (s : Same H H') {p : Addr} (h : H p ≠ none) : H' p ≠ none := by
  cases q : H p with
  | none => exact absurd q h
  | some o => rw [s _ _ q]; exact fun z => nomatch z
theorem PRel.same (r : PRel c O H σ ρ) (s : Same H H') : PRel c O H' σ ρ :=
  ⟨r.len, fun i t e => let ⟨x, a, b⟩ := r.get i t e; ⟨x, a, b.same s⟩, fun a ha => same_ne s (r.trk a ha), fun p o e n => s _ _ (r.fr p o e n), r.ou⟩
theorem same_upd {p : Addr} {o : HO} (h : H p = none) : Same H (upd H p o) := fun b x e => by
  rw [upd_ne (ne_of_none e h)]; exact e
theorem car_new {p : Addr} {o : HO} (h : H p = none) : Car O H (p :: O) (upd H p o) := fun q x e n => by
  have z : q ≠ p := ne_of_none e h
  exact ⟨by rw [upd_ne z]; exact e, by simp only [List.mem_cons, not_or]; exact ⟨z, n⟩⟩

/-! ### what is wanted -/
/-- a value -/
def PoP (c : C) (O : List Addr) (H : Hp) (r : PR T) (Q : VK) : Prop := match r with
  | .ok t => ∀ x H', Same H H' → Rep c.K c.w O H' t x → Q x H'
  | .ex k t => c.WT k t
  | .bad => False
/-- a value whose object is new -/
def PoN (c : C) (O : List Addr) (H : Hp) (r : PR T) (Q : VK) : Prop := match r with
  | .ok t => ∀ p H', Same H H' → H p = none → Own c.K c.w (p :: O) H' t p → Q (.ref p) H'
  | .ex k t => c.WT k t
  | .bad => False
def PoT (c : C) (H : Hp) (r : PR Bool) (Q : Bool → Hp → Prop) : Prop := match r with
  | .ok b => ∀ H', Same H H' → Q b H'
  | .ex k t => c.WT k t
  | .bad => False
def PoA (c : C) (O : List Addr) (H : Hp) (r : PR (List T)) (Q : List V → Hp → Prop) : Prop := match r with
  | .ok ts => ∀ xs H', Same H H' → Reps c.K c.w O H' ts xs → Q xs H'
  | .ex k t => c.WT k t
  | .bad => False
def tP (c : C) (f : PEv → PR T) : TE := fun σ H Q => ∃ ρ O, PRel c O H σ ρ ∧ PoP c O H (f ρ) Q
def tN (c : C) (f : PEv → PR T) : TE := fun σ H Q => ∃ ρ O, PRel c O H σ ρ ∧ PoN c O H (f ρ) Q
def tTs (c : C) (f : PEv → PR Bool) : TT := fun σ H Q => ∃ ρ O, PRel c O H σ ρ ∧ PoT c H (f ρ) Q
def tAs (c : C) (f : PEv → PR (List T)) : TA := fun σ H Q => ∃ ρ O, PRel c O H σ ρ ∧ PoA c O H (f ρ) Q

/-- what a wish has of errors -/
structure IsP (c : C) {β : Type} (P : PR β → Prop) : Prop where
  ex : ∀ k t, P (.ex k t) → c.WT k t
  bad : ¬ P .bad
theorem isP {Q : VK} : IsP c (PoP c O H · Q) := ⟨fun _ _ h => h, fun h => h⟩
theorem isN {Q : VK} : IsP c (PoN c O H · Q) := ⟨fun _ _ h => h, fun h => h⟩
theorem isT {Q : Bool → Hp → Prop} : IsP c (PoT c H · Q) := ⟨fun _ _ h => h, fun h => h⟩
theorem isA {Q : List V → Hp → Prop} : IsP c (PoA c O H · Q) := ⟨fun _ _ h => h, fun h => h⟩
theorem PoP.bind {β : Type} {P : PR β → Prop} (ip : IsP c P) {r : PR T} {k : T → PR β} {Q : VK} (h : P (r.bind k))
    (q : ∀ t x H1, Same H H1 → Rep c.K c.w O H1 t x → P (k t) → Q x H1) : PoP c O H r Q := by
  cases r with
  | ok t => exact fun x H1 s b => q t x H1 s b h
  | ex k' t => exact ip.ex _ _ h
  | bad => exact ip.bad h
theorem PoT.bind {β : Type} {P : PR β → Prop} (ip : IsP c P) {r : PR Bool} {k : Bool → PR β} {Q : Bool → Hp → Prop} (h : P (r.bind k))
    (q : ∀ t H1, Same H H1 → P (k t) → Q t H1) : PoT c H r Q := by
  cases r with
  | ok t => exact fun H1 s => q t H1 s h
  | ex k' t => exact ip.ex _ _ h
  | bad => exact ip.bad h
theorem PoA.bind {β : Type} {P : PR β → Prop} (ip : IsP c P) {r : PR (List T)} {k : List T → PR β} {Q : List V → Hp → Prop} (h : P (r.bind k))
    (q : ∀ t x H1, Same H H1 → Reps c.K c.w O H1 t x → P (k t) → Q x H1) : PoA c O H r Q := by
  cases r with
  | ok t => exact fun x H1 s b => q t x H1 s b h
  | ex k' t => exact ip.ex _ _ h
  | bad => exact ip.bad h

/-! ### a new object laid -/
theorem own_lst {p : Addr} {ts : List T} {vs : List V} (h : H p = none) (r : Reps K w O H ts vs) : Own K w (p :: O) (upd H p (.lst vs)) (.lst ts) p :=
  ⟨vs, upd_same, Reps.car (car_new h) ts vs r⟩
theorem rep_tup {p : Addr} {ts : List T} {vs : List V} (hO : ∀ a ∈ O, H a ≠ none) (h : H p = none) (r : Reps K w O H ts vs) : Rep K w O (upd H p (.tup vs)) (.tup ts) (.ref p) := by
  unfold Rep
  exact ⟨p, vs, rfl, .inl ⟨upd_same, fun z => hO p z h⟩, Reps.same (same_upd h) r⟩
theorem Own.less {O' : List Addr} {t : T} {a : Addr} (h : Own K w O' H t a) (k : ∀ b ∈ O, b ∈ O') : Own K w O H t a :=
  h.car (fun p o e n => ⟨e, fun z => n (k p z)⟩) fun _ e => e
theorem Rep.less {O' : List Addr} {t : T} {v : V} (h : Rep K w O' H t v) (k : ∀ b ∈ O, b ∈ O') : Rep K w O H t v :=
  Rep.car (fun p o e n => ⟨e, fun z => n (k p z)⟩) t v h
theorem Reps.less {O' : List Addr} {t : List T} {v : List V} (h : Reps K w O' H t v) (k : ∀ b ∈ O, b ∈ O') : Reps K w O H t v :=
  Reps.car (fun p o e n => ⟨e, fun z => n (k p z)⟩) t v h
theorem new_rep {p : Addr} {t : T} (hO : ∀ a ∈ O, H a ≠ none) (h : H p = none) (o : Own K w (p :: O) H' t p) : Rep K w O H' t (.ref p) :=
  (o.less fun b hb => List.mem_cons_of_mem _ hb).rep fun z => hO p z h
end

/-! ### judgements -/
theorem PEm {X : Cx} {e : Expr} {t t' : TE} (h : PE X e t) (k : ∀ σ H Q, t' σ H Q → t σ H Q) : PE X e t' :=
  ⟨fun pins s σ H Q I q => h.run pins s σ H Q I (k σ H Q q)⟩
theorem PTm {X : Cx} {e : Expr} {t t' : TT} (h : PT X e t) (k : ∀ σ H Q, t' σ H Q → t σ H Q) : PT X e t' :=
  ⟨fun pins s σ H Q I q => h.run pins s σ H Q I (k σ H Q q)⟩
theorem PWm {X : Cx} {e : Expr} {t t' : TT} (h : PW X e t) (k : ∀ σ H Q, t' σ H Q → t σ H Q) : PW X e t' :=
  ⟨fun wh pins s σ H Q I q => h.run wh pins s σ H Q I (k σ H Q q)⟩
theorem PAm {X : Cx} {e : List Expr} {t t' : TA} (h : PA X e t) (k : ∀ σ H Q, t' σ H Q → t σ H Q) : PA X e t' :=
  ⟨fun pos pins s σ H Q I q => h.run pos pins s σ H Q I (k σ H Q q)⟩

section
variable {X : Cx} {c : C} {e a b : Expr} {pos : Pos} {f fa fb : PEv → PR T}
/-- what is new is a value -/
theorem ev_n (h : PE X e (tN c f)) : PE X e (tP c f) := PEm h fun σ H Q ⟨ρ, O, re, po⟩ => ⟨ρ, O, re, by
  cases q : f ρ with
  | ok t => rw [q] at po; exact fun p H' s n o => po _ _ s (new_rep re.trk n o)
  | ex k t => rw [q] at po; exact po
  | bad => rw [q] at po; exact po⟩

/-! ### names and constants -/
def pV (i : Nat) : PEv → PR T := fun ρ => match ρ[i]? with
  | some (some t) => .ok t
  | _ => .bad
theorem ev_v {i : Nat} (h : PE X e (tVar i)) : PE X e (tP c (pV i)) := PEm h fun σ H Q ⟨ρ, O, re, po⟩ => by
  unfold pV at po
  cases q : ρ[i]? with
  | none => rw [q] at po; exact po.elim
  | some z =>
    cases z with
    | none => rw [q] at po; exact po.elim
    | some t =>
      rw [q] at po
      obtain ⟨x, h1, h2⟩ := re.get i t q
      exact ⟨x, h1, po x H (Same.refl H) h2⟩
def pC (t : T) : PEv → PR T := fun _ => .ok t
theorem ev_c {v : V} {t : T} (h : PE X e (tC v)) (r : ∀ O H, Rep c.K c.w O H t v) : PE X e (tP c (pC t)) := PEm h fun σ H Q ⟨ρ, O, re, po⟩ => po v H (Same.refl H) (r O H)
theorem rep_int {K w O H i} : Rep K w O H (.int i) (.int i) := by unfold Rep; rfl
theorem rep_str {K w O H i} : Rep K w O H (.str i) (.str i) := by unfold Rep; rfl
theorem rep_bl {K w O H i} : Rep K w O H (.bl i) (.bl i) := by unfold Rep; rfl
theorem rep_non {K w O H} : Rep K w O H .non .non := by unfold Rep; rfl
theorem rep_fn {K w O H a} : Rep K w O H (.fn a) (.ref a) := by unfold Rep; rfl
theorem rep_ty {K w O H n} : Rep K w O H (.ty n) (.ty n) := by unfold Rep; rfl
theorem of_ty {K w O H i v} (h : Rep K w O H (.ty i) v) : v = .ty i := by unfold Rep at h; exact h
theorem of_fn {K w O H i v} (h : Rep K w O H (.fn i) v) : v = .ref i := by unfold Rep at h; exact h
theorem of_int {K w O H i v} (h : Rep K w O H (.int i) v) : v = .int i := by unfold Rep at h; exact h
theorem of_str {K w O H i v} (h : Rep K w O H (.str i) v) : v = .str i := by unfold Rep at h; exact h
theorem of_bl {K w O H i v} (h : Rep K w O H (.bl i) v) : v = .bl i := by unfold Rep at h; exact h
theorem of_non {K w O H v} (h : Rep K w O H .non v) : v = .non := by unfold Rep at h; exact h
theorem of_lst {K w O H ts v} (h : Rep K w O H (.lst ts) v) : ∃ a vs, v = .ref a ∧ a ∉ O ∧ H a = some (.lst vs) ∧ Reps K w O H ts vs := by unfold Rep at h; exact h
theorem of_tup {K w O H ts v} (h : Rep K w O H (.tup ts) v) : ∃ a vs, v = .ref a ∧ FT K O H a vs ∧ Reps K w O H ts vs := by unfold Rep at h; exact h
theorem of_scr {K w O H ts v} (h : Rep K w O H (.scr ts) v) : ∃ a vs, v = .ref a ∧ FS K O H a vs ∧ Reps K w O H ts vs := by unfold Rep at h; exact h
theorem of_dct {K w O H ks ts v} (h : Rep K w O H (.dct ks ts) v) : ∃ a kvs, v = .ref a ∧ a ∉ O ∧ H a = some (.dK kvs) ∧ kvs.map (·.1) = ks ∧ Reps K w O H ts (kvs.map (·.2)) := by unfold Rep at h; exact h
theorem of_set {K w O H S v} (h : Rep K w O H (.set S) v) : ∃ a, v = .ref a ∧ a ∉ O ∧ SetIs w H a S := by unfold Rep at h; exact h
theorem ev_int {i j} : PE X (.Constant (.int i) j pos) (tP c (pC (.int i))) := ev_c pe_int fun _ _ => rep_int
theorem ev_str {x j} : PE X (.Constant (.str x) j pos) (tP c (pC (.str x))) := ev_c pe_str fun _ _ => rep_str
theorem ev_bl {x j} : PE X (.Constant (.bool x) j pos) (tP c (pC (.bl x))) := ev_c pe_bl fun _ _ => rep_bl
theorem ev_non {j} : PE X (.Constant .none j pos) (tP c (pC .non)) := ev_c pe_non fun _ _ => rep_non
theorem ev_nv (i : Nat) {x : Str} (hN : X.N[i]? = some x := by rfl) (hv : Vis X.env.scope x := by first | exact Or.inl rfl | exact Or.inr (Or.inl rfl) | exact Or.inr (Or.inr rfl)) (hd : (x == ("__debug__" : Str)) = false := by decide)
    (hcd : (x == ("__classdict__" : Str)) = false := by decide) : PE X (.Name x pos) (tP c (pV i)) := ev_v (pe_var hN hv hd hcd)

/-! ### operators by values -/
/-- r does g -/
def OpOk (K : PySem.W.Frag) (w : World) (r : R2) (g : T → T → Option T) : Prop := ∀ (O : List Addr) (H : Hp) (t u z : T) (x y : V) (Q : VK), (∀ a ∈ O, H a ≠ none) →
  Rep K w O H t x → Rep K w O H u y → g t u = some z → (∀ v H', Same H H' → Rep K w O H' z v → Q v H') → r x y H Q
def pOp (g : T → T → Option T) (fa fb : PEv → PR T) : PEv → PR T := fun ρ => (fa ρ).bind fun t => (fb ρ).bind fun u => PR.of (g t u)
theorem rd_op {r : R2} {g : T → T → Option T} (hr : OpOk c.K c.w r g) {σ : Sg} {H : Hp} {Q : VK} (h : tP c (pOp g fa fb) σ H Q) : tOp r (tP c fa) (tP c fb) σ H Q := by
  obtain ⟨ρ, O, re, po⟩ := h
  refine ⟨ρ, O, re, PoP.bind isP po fun t x H1 s1 b1 po1 => ⟨ρ, O, re.same s1, PoP.bind isP po1 fun u y H2 s2 b2 po2 => ?_⟩⟩
  cases q : g t u with
  | none => rw [q] at po2; exact po2.elim
  | some z =>
    rw [q] at po2
    exact hr O H2 t u z x y Q (re.same (s1.trans s2)).trk (b1.same s2) b2 q fun v H' s v' => po2 v H' ((s1.trans s2).trans s) v'
theorem ev_op {op : Operator} {r : R2} {g : T → T → Option T} (ho : OpR X (binaryOp op) r) (hr : OpOk c.K c.w r g) (ha : PE X a (tP c fa)) (hb : PE X b (tP c fb)) : PE X (.BinOp a op b pos) (tP c (pOp g fa fb)) :=
  PEm (pe_op ho ha hb) fun _ _ _ h => rd_op hr h
/-- a comparison -/
def BoOk (K : PySem.W.Frag) (w : World) (r : R2) (g : T → T → Option Bool) : Prop := ∀ (O : List Addr) (H : Hp) (t u : T) (z : Bool) (x y : V) (Q : VK), (∀ a ∈ O, H a ≠ none) →
  Rep K w O H t x → Rep K w O H u y → g t u = some z → Q (.bl z) H → r x y H Q
def pB (g : T → T → Option Bool) (fa fb : PEv → PR T) : PEv → PR Bool := fun ρ => (fa ρ).bind fun t => (fb ρ).bind fun u => PR.of (g t u)
def pOfB (f : PEv → PR Bool) : PEv → PR T := fun ρ => (f ρ).bind fun b => .ok (.bl b)
theorem rd_cmp {r : R2} {g : T → T → Option Bool} (hr : BoOk c.K c.w r g) {σ : Sg} {H : Hp} {Q : VK} (h : tP c (pOfB (pB g fa fb)) σ H Q) : tOp r (tP c fa) (tP c fb) σ H Q := by
  obtain ⟨ρ, O, re, po⟩ := h
  have po' : PoP c O H ((fa ρ).bind fun t => (fb ρ).bind fun u => (PR.of (g t u)).bind fun b => .ok (.bl b)) Q := by
    have e : pOfB (pB g fa fb) ρ = ((fa ρ).bind fun t => (fb ρ).bind fun u => (PR.of (g t u)).bind fun b => .ok (.bl b)) := by
      unfold pOfB pB
      cases fa ρ with
      | ok t => cases fb ρ <;> rfl
      | ex k t => rfl
      | bad => rfl
    rw [← e]; exact po
  refine ⟨ρ, O, re, PoP.bind isP po' fun t x H1 s1 b1 po1 => ⟨ρ, O, re.same s1, PoP.bind isP po1 fun u y H2 s2 b2 po2 => ?_⟩⟩
  cases q : g t u with
  | none => rw [q] at po2; exact po2.elim
  | some z =>
    rw [q] at po2
    exact hr O H2 t u z x y Q (re.same (s1.trans s2)).trk (b1.same s2) b2 q (po2 _ H2 (s1.trans s2) rep_bl)
theorem ev_cmp {op : CmpOp} {r : R2} {g : T → T → Option Bool} (ho : OpR X (compareOp op) r) (hr : BoOk c.K c.w r g) (ha : PE X a (tP c fa)) (hb : PE X b (tP c fb)) (hm : behindInMarks op b = false) : PE X (.Compare a [op] [b] pos) (tP c (pOfB (pB g fa fb))) :=
  PEm (pe_cmpR ho ha hb hm) fun _ _ _ h => rd_cmp hr h
theorem et_cmp {op : CmpOp} {r : R2} {g : T → T → Option Bool} (ho : OpR X (compareOp op) r) (hr : BoOk c.K c.w r g) (ha : PE X a (tP c fa)) (hb : PE X b (tP c fb)) (hm : behindInMarks op b = false) : PT X (.Compare a [op] [b] pos) (tTs c (pB g fa fb)) :=
  PTm (pt_cmpR ho ha hb hm) fun σ H Q h => by
    obtain ⟨ρ, O, re, po⟩ := h
    refine ⟨ρ, O, re, PoP.bind isT po fun t x H1 s1 b1 po1 => ⟨ρ, O, re.same s1, PoP.bind isT po1 fun u y H2 s2 b2 po2 => ?_⟩⟩
    cases q : g t u with
    | none => rw [q] at po2; exact po2.elim
    | some z =>
      rw [q] at po2
      exact hr O H2 t u z x y _ (re.same (s1.trans s2)).trk (b1.same s2) b2 q ⟨z, rfl, po2 H2 (s1.trans s2)⟩
/-- a <= b <= c -/
def pCh (g g' : T → T → Option Bool) (fa fb fc : PEv → PR T) : PEv → PR Bool := fun ρ => (fa ρ).bind fun t => (fb ρ).bind fun u => (PR.of (g t u)).bind fun z => if z then (fc ρ).bind fun v => PR.of (g' u v) else .ok false
theorem et_chain {op op' : CmpOp} {r r' : R2} {g g' : T → T → Option Bool} {d : Expr} {fc : PEv → PR T} (ho : OpR X (compareOp op) r) (ho' : OpR X (compareOp op') r') (hr : BoOk c.K c.w r g) (hr' : BoOk c.K c.w r' g')
    (ha : PE X a (tP c fa)) (hb : PE X b (tP c fb)) (hc : PE X d (tP c fc)) (hm : lastMarks [op, op'] [b, d] = false := by with_unfolding_all rfl) : PT X (.Compare a [op, op'] [b, d] pos) (tTs c (pCh g g' fa fb fc)) :=
  PTm (pt_chain ho ho' ha hb hc hm) fun σ H Q h => by
    obtain ⟨ρ, O, re, po⟩ := h
    refine ⟨ρ, O, re, PoP.bind isT po fun t x H1 s1 b1 po1 => ⟨ρ, O, re.same s1, PoP.bind isT po1 fun u y H2 s2 b2 po2 => ?_⟩⟩
    cases q : g t u with
    | none => rw [q] at po2; exact po2.elim
    | some z =>
      rw [q] at po2
      refine hr O H2 t u z x y _ (re.same (s1.trans s2)).trk (b1.same s2) b2 q ⟨z, rfl, ?_⟩
      cases z with
      | false => exact ⟨false, rfl, po2 H2 (s1.trans s2)⟩
      | true =>
        refine ⟨ρ, O, re.same (s1.trans s2), PoP.bind isT po2 fun v y' H3 s3 b3 po3 => ?_⟩
        cases q' : g' u v with
        | none => rw [q'] at po3; exact po3.elim
        | some z' =>
          rw [q'] at po3
          exact hr' O H3 u v z' y y' _ (re.same ((s1.trans s2).trans s3)).trk (b2.same s3) b3 q' ⟨z', rfl, po3 H3 ((s1.trans s2).trans s3)⟩
theorem ev_chain {op op' : CmpOp} {r r' : R2} {g g' : T → T → Option Bool} {d : Expr} {fc : PEv → PR T} (ho : OpR X (compareOp op) r) (ho' : OpR X (compareOp op') r') (hr : BoOk c.K c.w r g) (hr' : BoOk c.K c.w r' g')
    (ha : PE X a (tP c fa)) (hb : PE X b (tP c fb)) (hc : PE X d (tP c fc)) (hm : lastMarks [op, op'] [b, d] = false := by with_unfolding_all rfl) : PE X (.Compare a [op, op'] [b, d] pos) (tP c (pOfB (pCh g g' fa fb fc))) :=
  PEm (pe_chain ho ho' ha hb hc hm) fun σ H Q h => by
    obtain ⟨ρ, O, re, po⟩ := h
    have po' : PoP c O H ((fa ρ).bind fun t => (fb ρ).bind fun u => (PR.of (g t u)).bind fun z => if z then (fc ρ).bind fun v => (PR.of (g' u v)).bind fun b => .ok (.bl b) else .ok (.bl false)) Q := by
      have e : pOfB (pCh g g' fa fb fc) ρ = ((fa ρ).bind fun t => (fb ρ).bind fun u => (PR.of (g t u)).bind fun z => if z then (fc ρ).bind fun v => (PR.of (g' u v)).bind fun b => .ok (.bl b) else .ok (.bl false)) := by
        unfold pOfB pCh
        cases fa ρ with
        | ok t =>
          cases fb ρ with
          | ok u =>
            show ((PR.of (g t u)).bind _).bind _ = (PR.of (g t u)).bind _
            cases PR.of (g t u) with
            | ok z =>
              cases z with
              | true => show ((fc ρ).bind _).bind _ = (fc ρ).bind _; cases fc ρ <;> rfl
              | false => rfl
            | ex k t => rfl
            | bad => rfl
          | ex k t => rfl
          | bad => rfl
        | ex k t => rfl
        | bad => rfl
      rw [← e]; exact po
    refine ⟨ρ, O, re, PoP.bind isP po' fun t x H1 s1 b1 po1 => ⟨ρ, O, re.same s1, PoP.bind isP po1 fun u y H2 s2 b2 po2 => ?_⟩⟩
    cases q : g t u with
    | none => rw [q] at po2; exact po2.elim
    | some z =>
      rw [q] at po2
      refine hr O H2 t u z x y _ (re.same (s1.trans s2)).trk (b1.same s2) b2 q ⟨z, rfl, ?_⟩
      cases z with
      | false => exact po2 _ H2 (s1.trans s2) rep_bl
      | true =>
        refine ⟨ρ, O, re.same (s1.trans s2), PoP.bind isP po2 fun v y' H3 s3 b3 po3 => ?_⟩
        cases q' : g' u v with
        | none => rw [q'] at po3; exact po3.elim
        | some z' =>
          rw [q'] at po3
          exact hr' O H3 u v z' y y' _ (re.same ((s1.trans s2).trans s3)).trk (b2.same s3) b3 q' (po3 _ H3 ((s1.trans s2).trans s3) rep_bl)

/-! ### tests -/
def pTru (f : PEv → PR T) : PEv → PR Bool := fun ρ => (f ρ).bind fun t => match t with
  | .non => .ok false
  | .bl b => .ok b
  | .int i => .ok (i != 0)
  | .lst ts => .ok (!ts.isEmpty)
  | .tup ts => .ok (!ts.isEmpty)
  | .scr ts => .ok (!ts.isEmpty)
  | .dct ks _ => .ok (!ks.isEmpty)
  | _ => .bad
theorem Reps.isEmpty {K w O H} {ts : List T} {vs : List V} (h : Reps K w O H ts vs) : ts.isEmpty = vs.isEmpty := by
  have := h.len
  cases ts <;> cases vs <;> simp_all
theorem et_tru (ha : PE X a (tP c fa)) (he : ∀ whole, isTrue a X.env whole = (do let v ← whole; standAt a.pos; holding [v] (truthy v)) := by intro _; rfl) (hK : X.K = c.K := by rfl) : PT X a (tTs c (pTru fa)) :=
  PTm (pt_truth ha he) fun σ H Q h => by
    obtain ⟨ρ, O, re, po⟩ := h
    refine ⟨ρ, O, re, PoP.bind isT po fun t x H1 s1 b1 po1 => ?_⟩
    cases t with
    | non => exact ⟨false, by rw [of_non b1]; rfl, po1 H1 s1⟩
    | bl z => exact ⟨z, by rw [of_bl b1]; rfl, po1 H1 s1⟩
    | int z => exact ⟨_, by rw [of_int b1]; rfl, po1 H1 s1⟩
    | str z => exact po1.elim
    | fn z => exact po1.elim
    | set z => exact po1.elim
    | ty z => exact po1.elim
    | lst ts =>
      obtain ⟨p, vs, e, _, hp, r⟩ := of_lst b1
      exact ⟨_, by rw [e]; exact .inl ⟨vs, SqL.of hp, rfl⟩, by rw [← r.isEmpty]; exact po1 H1 s1⟩
    | tup ts =>
      obtain ⟨p, vs, e, hp, r⟩ := of_tup b1
      exact ⟨_, by rw [e, hK]; exact .inr (.inl ⟨vs, hp.sq, rfl⟩), by rw [← r.isEmpty]; exact po1 H1 s1⟩
    | scr ts =>
      obtain ⟨p, vs, e, hp, r⟩ := of_scr b1
      exact ⟨_, by rw [e, hK]; exact .inl ⟨vs, hp.sq, rfl⟩, by rw [← r.isEmpty]; exact po1 H1 s1⟩
    | dct ks ts =>
      obtain ⟨p, kvs, e, _, hp, hk, r⟩ := of_dct b1
      refine ⟨!kvs.isEmpty, by rw [e]; exact .inr (.inr ⟨kvs, hp, rfl⟩), ?_⟩
      have z : kvs.isEmpty = ks.isEmpty := by subst hk; cases kvs <;> rfl
      rw [z]; exact po1 H1 s1
def pNot (f : PEv → PR Bool) : PEv → PR Bool := fun ρ => (f ρ).bind fun b => .ok (!b)
def pAnd (f g : PEv → PR Bool) : PEv → PR Bool := fun ρ => (f ρ).bind fun b => if b then g ρ else .ok false
def pOr (f g : PEv → PR Bool) : PEv → PR Bool := fun ρ => (f ρ).bind fun b => if b then .ok true else g ρ
variable {f1 f2 : PEv → PR Bool} {rest : List Expr}
theorem et_not (ha : PT X a (tTs c f1)) : PT X (.UnaryOp .Not a pos) (tTs c (pNot f1)) := PTm (pt_not ha) fun σ H Q ⟨ρ, O, re, po⟩ =>
  ⟨ρ, O, re, PoT.bind isT po fun t H1 s1 po1 => po1 H1 s1⟩
theorem PoT.from {H1 : Hp} {H : Hp} (s : Same H H1) {r : PR Bool} {Q : Bool → Hp → Prop} (h : PoT c H r Q) : PoT c H1 r Q := by
  cases r with
  | ok b => exact fun H' s' => h H' (s.trans s')
  | ex k t => exact h
  | bad => exact h
theorem PoP.from {O : List Addr} {H1 : Hp} {H : Hp} (s : Same H H1) {r : PR T} {Q : VK} (h : PoP c O H r Q) : PoP c O H1 r Q := by
  cases r with
  | ok b => exact fun x H' s' => h x H' (s.trans s')
  | ex k t => exact h
  | bad => exact h
theorem PoN.from {O : List Addr} {H1 : Hp} {H : Hp} (s : Same H H1) {r : PR T} {Q : VK} (h : PoN c O H r Q) : PoN c O H1 r Q := by
  cases r with
  | ok b =>
    intro p H' s' n o
    exact h p H' (s.trans s') (s.free n) o
  | ex k t => exact h
  | bad => exact h
theorem ew_and1 (ha : PT X a (tTs c f1)) : PW X (.BoolOp .And [a] pos) (tTs c f1) := pw_and1 ha
theorem ew_or1 (ha : PT X a (tTs c f1)) : PW X (.BoolOp .Or [a] pos) (tTs c f1) := pw_or1 ha
theorem ew_and (ha : PT X a (tTs c f1)) (hb : PW X (.BoolOp .And (b :: rest) pos) (tTs c f2)) : PW X (.BoolOp .And (a :: b :: rest) pos) (tTs c (pAnd f1 f2)) := PWm (pw_and ha hb) fun σ H Q ⟨ρ, O, re, po⟩ =>
  ⟨ρ, O, re, PoT.bind isT po fun t H1 s1 po1 => by
    cases t with
    | true => rw [if_pos rfl]; exact ⟨ρ, O, re.same s1, PoT.from s1 po1⟩
    | false => rw [if_neg Bool.false_ne_true]; exact po1 H1 s1⟩
theorem ew_or (ha : PT X a (tTs c f1)) (hb : PW X (.BoolOp .Or (b :: rest) pos) (tTs c f2)) : PW X (.BoolOp .Or (a :: b :: rest) pos) (tTs c (pOr f1 f2)) := PWm (pw_or ha hb) fun σ H Q ⟨ρ, O, re, po⟩ =>
  ⟨ρ, O, re, PoT.bind isT po fun t H1 s1 po1 => by
    cases t with
    | true => rw [if_pos rfl]; exact po1 H1 s1
    | false => rw [if_neg Bool.false_ne_true]; exact ⟨ρ, O, re.same s1, PoT.from s1 po1⟩⟩
/-- as values: bools alone -/
def pAsB (f : PEv → PR T) : PEv → PR Bool := fun ρ => (f ρ).bind fun t => match t with
  | .bl b => .ok b
  | _ => .bad
def pAndV (f g : PEv → PR T) : PEv → PR T := fun ρ => (pAsB f ρ).bind fun b => if b then g ρ else .ok (.bl false)
def pOrV (f g : PEv → PR T) : PEv → PR T := fun ρ => (pAsB f ρ).bind fun b => if b then .ok (.bl true) else g ρ
def pNotV (f : PEv → PR T) : PEv → PR T := fun ρ => (pAsB f ρ).bind fun b => .ok (.bl (!b))
theorem PoP.asB {β : Type} {P : PR β → Prop} {O : List Addr} {H : Hp} {ρ : PEv} (ip : IsP c P) {k : Bool → PR β} {Q : VK} (h : P ((pAsB f ρ).bind k))
    (q : ∀ z H1, Same H H1 → P (k z) → Q (.bl z) H1) : PoP c O H (f ρ) Q := by
  unfold pAsB at h
  cases e : f ρ with
  | ok t =>
    rw [e] at h
    cases t with
    | bl z => intro x H1 s b; rw [of_bl b]; exact q z H1 s h
    | non => exact (ip.bad h).elim
    | int _ => exact (ip.bad h).elim
    | str _ => exact (ip.bad h).elim
    | lst _ => exact (ip.bad h).elim
    | tup _ => exact (ip.bad h).elim
    | dct _ _ => exact (ip.bad h).elim
    | set _ => exact (ip.bad h).elim
    | fn _ => exact (ip.bad h).elim
    | scr _ => exact (ip.bad h).elim
    | ty _ => exact (ip.bad h).elim
  | ex k t => rw [e] at h; exact ip.ex _ _ h
  | bad => rw [e] at h; exact ip.bad h
theorem ev_one {op} {t : TE} (h : PE X a t) : PE X (.BoolOp op [a] pos) t := pe_one h
theorem ev_and (ha : PE X a (tP c fa)) (hb : PE X (.BoolOp .And (b :: rest) pos) (tP c fb)) : PE X (.BoolOp .And (a :: b :: rest) pos) (tP c (pAndV fa fb)) := PEm (pe_and ha hb) fun σ H Q ⟨ρ, O, re, po⟩ =>
  ⟨ρ, O, re, PoP.asB isP po fun z H1 s1 po1 => ⟨z, rfl, by
    cases z with
    | true => rw [if_pos rfl]; exact ⟨ρ, O, re.same s1, PoP.from s1 po1⟩
    | false => rw [if_neg Bool.false_ne_true]; exact po1 _ H1 s1 rep_bl⟩⟩
theorem ev_or (ha : PE X a (tP c fa)) (hb : PE X (.BoolOp .Or (b :: rest) pos) (tP c fb)) : PE X (.BoolOp .Or (a :: b :: rest) pos) (tP c (pOrV fa fb)) := PEm (pe_or ha hb) fun σ H Q ⟨ρ, O, re, po⟩ =>
  ⟨ρ, O, re, PoP.asB isP po fun z H1 s1 po1 => ⟨z, rfl, by
    cases z with
    | true => rw [if_pos rfl]; exact po1 _ H1 s1 rep_bl
    | false => rw [if_neg Bool.false_ne_true]; exact ⟨ρ, O, re.same s1, PoP.from s1 po1⟩⟩⟩
theorem ev_not (ha : PE X a (tP c fa)) : PE X (.UnaryOp .Not a pos) (tP c (pNotV fa)) := PEm (pe_not ha) fun σ H Q ⟨ρ, O, re, po⟩ =>
  ⟨ρ, O, re, PoP.asB isP po fun z H1 s1 po1 => ⟨z, rfl, po1 _ H1 s1 rep_bl⟩⟩
def pIf {α : Type} (t : PEv → PR Bool) (f g : PEv → PR α) : PEv → PR α := fun ρ => (t ρ).bind fun b => if b then f ρ else g ρ
theorem ev_if {d : Expr} (hc : PT X d (tTs c f1)) (ha : PE X a (tP c fa)) (hb : PE X b (tP c fb)) : PE X (.IfExp d a b pos) (tP c (pIf f1 fa fb)) := PEm (pe_ifExp hc ha hb) fun σ H Q ⟨ρ, O, re, po⟩ =>
  ⟨ρ, O, re, PoT.bind isP po fun t H1 s1 po1 => by
    cases t with
    | true => rw [if_pos rfl]; exact ⟨ρ, O, re.same s1, PoP.from s1 po1⟩
    | false => rw [if_neg Bool.false_ne_true]; exact ⟨ρ, O, re.same s1, PoP.from s1 po1⟩⟩
theorem ev_ifN {d : Expr} (hc : PT X d (tTs c f1)) (ha : PE X a (tN c fa)) (hb : PE X b (tN c fb)) : PE X (.IfExp d a b pos) (tN c (pIf f1 fa fb)) := PEm (pe_ifExp hc ha hb) fun σ H Q ⟨ρ, O, re, po⟩ =>
  ⟨ρ, O, re, PoT.bind isN po fun t H1 s1 po1 => by
    cases t with
    | true => rw [if_pos rfl]; exact ⟨ρ, O, re.same s1, PoN.from s1 po1⟩
    | false => rw [if_neg Bool.false_ne_true]; exact ⟨ρ, O, re.same s1, PoN.from s1 po1⟩⟩

/-! ### arguments, displays -/
def pNil : PEv → PR (List T) := fun _ => .ok []
def pCons (f : PEv → PR T) (g : PEv → PR (List T)) : PEv → PR (List T) := fun ρ => (f ρ).bind fun t => (g ρ).bind fun ts => .ok (t :: ts)
variable {es : List Expr} {fs : PEv → PR (List T)}
theorem ea_nil : PA X [] (tAs c pNil) := PAm pa_nil fun σ H Q ⟨ρ, O, re, po⟩ => po [] H (Same.refl H) Reps.nil
theorem ea_cons (ha : PE X e (tP c f)) (hr : PA X es (tAs c fs)) (hs : starEach (e :: es) X.env = (false, eval e X.env) :: starEach es X.env := by rfl) : PA X (e :: es) (tAs c (pCons f fs)) :=
  PAm (pa_cons ha hr hs) fun σ H Q ⟨ρ, O, re, po⟩ => ⟨ρ, O, re, PoP.bind isA po fun t x H1 s1 b1 po1 => ⟨ρ, O, re.same s1, PoA.bind isA po1 fun ts xs H2 s2 b2 po2 =>
    po2 (x :: xs) H2 (s1.trans s2) (Reps.cons (b1.same s2) b2)⟩⟩
def small (ts : List T) : Bool := decide (ts.length ≤ 16777216)
theorem small_ok {ts : List T} (h : small ts = true) : ts.length ≤ sizeLine := by
  rw [sizeLine_eq]; exact of_decide_eq_true h
def pLst (fs : PEv → PR (List T)) : PEv → PR T := fun ρ => (fs ρ).bind fun ts => if small ts then .ok (.lst ts) else .bad
def pTup (fs : PEv → PR (List T)) : PEv → PR T := fun ρ => (fs ρ).bind fun ts => if small ts then .ok (.tup ts) else .bad
theorem ev_lst (h : PA X es (tAs c fs)) : PE X (.List es pos) (tN c (pLst fs)) := PEm (pe_lst h) fun σ H Q ⟨ρ, O, re, po⟩ => ⟨ρ, O, re, PoA.bind isN po fun ts xs H1 s1 b1 po1 => by
  by_cases z : small ts = true
  · rw [if_pos z] at po1
    exact ⟨by rw [← b1.len]; exact small_ok z, fun p n => po1 p _ (s1.trans (same_upd n)) (s1.free n) (own_lst n b1)⟩
  · rw [if_neg z] at po1; exact po1.elim⟩
theorem ev_tup {k} (h : PA X es (tAs c fs)) : PE X (.Tuple es k pos) (tP c (pTup fs)) := PEm (pe_tup h) fun σ H Q ⟨ρ, O, re, po⟩ => ⟨ρ, O, re, PoA.bind isP po fun ts xs H1 s1 b1 po1 => by
  by_cases z : small ts = true
  · rw [if_pos z] at po1
    exact ⟨by rw [← b1.len]; exact small_ok z, fun p n => po1 _ _ (s1.trans (same_upd n)) (rep_tup (re.same s1).trk n b1)⟩
  · rw [if_neg z] at po1; exact po1.elim⟩

/-! ### built-in functions by values -/
def CallOk (K : PySem.W.Frag) (w : World) (r : List V → Hp → VK → Prop) (g : List T → Option T) : Prop := ∀ (O : List Addr) (H : Hp) (ts : List T) (z : T) (xs : List V) (Q : VK), (∀ a ∈ O, H a ≠ none) →
  Reps K w O H ts xs → g ts = some z → (∀ v H', Same H H' → Rep K w O H' z v → Q v H') → r xs H Q
/-- its object is new -/
def CallNew (K : PySem.W.Frag) (w : World) (r : List V → Hp → VK → Prop) (g : List T → Option T) : Prop := ∀ (O : List Addr) (H : Hp) (ts : List T) (z : T) (xs : List V) (Q : VK), (∀ a ∈ O, H a ≠ none) →
  Reps K w O H ts xs → g ts = some z → (∀ p H', Same H H' → H p = none → Own K w (p :: O) H' z p → Q (.ref p) H') → r xs H Q
def pF (g : List T → Option T) (fs : PEv → PR (List T)) : PEv → PR T := fun ρ => (fs ρ).bind fun ts => PR.of (g ts)
theorem rd_cb {r : List V → Hp → VK → Prop} {g : List T → Option T} (hr : CallOk c.K c.w r g) {σ : Sg} {H : Hp} {Q : VK} (h : tP c (pF g fs) σ H Q) : tCB r (tAs c fs) σ H Q := by
  obtain ⟨ρ, O, re, po⟩ := h
  refine ⟨ρ, O, re, PoA.bind isP po fun ts xs H1 s1 b1 po1 => ?_⟩
  cases q : g ts with
  | none => rw [q] at po1; exact po1.elim
  | some z => rw [q] at po1; exact hr O H1 ts z xs Q (re.same s1).trk b1 q fun v H' s b => po1 v H' (s1.trans s) b
theorem rd_cbN {r : List V → Hp → VK → Prop} {g : List T → Option T} (hr : CallNew c.K c.w r g) {σ : Sg} {H : Hp} {Q : VK} (h : tN c (pF g fs) σ H Q) : tCB r (tAs c fs) σ H Q := by
  obtain ⟨ρ, O, re, po⟩ := h
  refine ⟨ρ, O, re, PoA.bind isN po fun ts xs H1 s1 b1 po1 => ?_⟩
  cases q : g ts with
  | none => rw [q] at po1; exact po1.elim
  | some z => rw [q] at po1; exact hr O H1 ts z xs Q (re.same s1).trk b1 q fun v H' s n b => po1 v H' (s1.trans s) (s1.free n) b
end
end TL

set_option Elab.async false
set_option linter.all false
set_option maxRecDepth 100000
/-! TL3: what the operations do to trees. -/
namespace TL
open PySem PySem.Spec L2

section
variable {X : Cx} {K : PySem.W.Frag} {w : World} {O : List Addr} {H : Hp}

/-! ### data -/
mutual
def T.d : T → Option PyData
  | .non => some .none
  | .bl b => some (.bool b)
  | .int i => some (.int i)
  | .str x => some (.str x)
  | .lst ts => (T.ds ts).map .list
  | .tup ts => (T.ds ts).map .tuple
  | .scr ts => (T.ds ts).map .list
  | _ => none
def T.ds : List T → Option (List PyData)
  | [] => some []
  | t :: ts => (T.d t).bind fun x => (T.ds ts).map fun r => x :: r
end
mutual
theorem Rep.dp : ∀ (t : T) (v : V) (x : PyData), Rep K w O H t v → t.d = some x → Dp K H v x
  | .non, v, x, h, e => by cases e; rw [of_non h]; exact .non
  | .bl b, v, x, h, e => by cases e; rw [of_bl h]; exact .bl b
  | .int b, v, x, h, e => by cases e; rw [of_int h]; exact .int b
  | .str b, v, x, h, e => by cases e; rw [of_str h]; exact .str b
  | .lst ts, v, x, h, e => by
    obtain ⟨p, vs, e1, _, hp, r⟩ := of_lst h
    unfold T.d at e
    cases q : T.ds ts with
    | none => rw [q] at e; cases e
    | some ds => rw [q] at e; cases e; rw [e1]; exact .lst (SqL.of hp) (Reps.dp ts vs ds r q)
  | .tup ts, v, x, h, e => by
    obtain ⟨p, vs, e1, hp, r⟩ := of_tup h
    unfold T.d at e
    cases q : T.ds ts with
    | none => rw [q] at e; cases e
    | some ds => rw [q] at e; cases e; rw [e1]; exact .tup hp.sq (Reps.dp ts vs ds r q)
  | .scr ts, v, x, h, e => by
    obtain ⟨p, vs, e1, hp, r⟩ := of_scr h
    unfold T.d at e
    cases q : T.ds ts with
    | none => rw [q] at e; cases e
    | some ds => rw [q] at e; cases e; rw [e1]; exact .lst (hp.sq) (Reps.dp ts vs ds r q)
  | .dct _ _, _, _, _, e => by unfold T.d at e; cases e
  | .set _, _, _, _, e => by unfold T.d at e; cases e
  | .fn _, _, _, _, e => by unfold T.d at e; cases e
  | .ty _, _, _, _, e => by unfold T.d at e; cases e
theorem Reps.dp : ∀ (ts : List T) (vs : List V) (xs : List PyData), Reps K w O H ts vs → T.ds ts = some xs → DpAll K H vs xs
  | [], vs, xs, h, e => by unfold Reps at h; subst h; unfold T.ds at e; cases e; exact .nil
  | t :: ts, vs, xs, h, e => by
    unfold Reps at h
    obtain ⟨v, r, e1, a, b⟩ := h
    subst e1
    unfold T.ds at e
    cases q : T.d t with
    | none => rw [q] at e; cases e
    | some y =>
      rw [q] at e
      cases q2 : T.ds ts with
      | none => rw [q2] at e; cases e
      | some ys => rw [q2] at e; cases e; exact .cons (Rep.dp t v y a q) (Reps.dp ts r ys b q2)
end

/-! ### arithmetic -/
def gInt (f : Int → Int → T) : T → T → Option T
  | .int a, .int b => some (f a b)
  | _, _ => none
def gIntC (p : Int → Int → Bool) (f : Int → Int → Int) : T → T → Option T
  | .int a, .int b => if p a b then some (.int (f a b)) else none
  | _, _ => none
theorem ok_rI0 {f : Int → Int → Int} : OpOk K w (rI0 fun i j => .int (f i j)) (gInt fun a b => .int (f a b)) := by
  intro O H t u z x y Q tr a b e q
  cases t <;> cases u <;> first | (cases e; done) | skip
  cases e
  exact ⟨_, _, of_int a, of_int b, q _ H (Same.refl H) rep_int⟩
theorem ok_rI {D : Int → Int → Prop} {p : Int → Int → Bool} {f : Int → Int → Int} (hp : ∀ i j, p i j = true → D i j) : OpOk K w (rI D fun i j => .int (f i j)) (gIntC p f) := by
  intro O H t u z x y Q tr a b e q
  cases t <;> cases u <;> first | (cases e; done) | skip
  rename_i i j
  simp only [gIntC] at e
  split at e
  · rename_i h
    cases e
    exact ⟨_, _, of_int a, of_int b, hp _ _ h, q _ H (Same.refl H) rep_int⟩
  · cases e
def gAddS : T → T → Option T
  | .str a, .str b => if a.length + b.length ≤ 16777216 then some (.str (a ++ b)) else none
  | _, _ => none
def gCat : T → T → Option T
  | .lst a, .lst b => if small (a ++ b) then some (.lst (a ++ b)) else none
  | _, _ => none
theorem ok_addS : OpOk K w (fun x y H Q => ∃ i j, x = .str i ∧ y = .str j ∧ i.length + j.length ≤ sizeLine ∧ Q (.str (i ++ j)) H) gAddS := by
  intro O H t u z x y Q tr a b e q
  cases t <;> cases u <;> first | (cases e; done) | skip
  simp only [gAddS] at e
  split at e
  · rename_i h
    cases e
    exact ⟨_, _, of_str a, of_str b, by rw [sizeLine_eq]; exact h, q _ H (Same.refl H) rep_str⟩
  · cases e
theorem small_len {K w O H} {ts : List T} {vs : List V} (r : Reps K w O H ts vs) (h : small ts = true) : vs.length ≤ sizeLine := by
  rw [← r.len]; exact small_ok h
theorem ok_cat : OpOk K w rCat gCat := by
  intro O H t u z x y Q tr a b e q
  cases t <;> cases u <;> first | (cases e; done) | skip
  simp only [gCat] at e
  split at e
  · rename_i h
    cases e
    obtain ⟨p1, v1, e1, n1, h1, r1⟩ := of_lst a
    obtain ⟨p2, v2, e2, n2, h2, r2⟩ := of_lst b
    refine ⟨p1, p2, v1, v2, e1, e2, h1, h2, ?_, fun p n => ?_⟩
    · have := small_len (r1.append r2) h
      rw [List.length_append] at this; exact this
    · exact q _ _ (same_upd n) (new_rep tr n (own_lst n (r1.append r2)))
  · cases e
theorem OpOk.or {r r' : R2} {g g' : T → T → Option T} (a : OpOk K w r g) (b : OpOk K w r' g') : OpOk K w (fun x y H Q => r x y H Q ∨ r' x y H Q) (fun t u => (g t u).orElse fun _ => g' t u) := by
  intro O H t u z x y Q tr h1 h2 e q
  replace e : ((g t u).orElse fun _ => g' t u) = some z := e
  cases q1 : g t u with
  | some z' =>
    rw [q1] at e
    cases e
    exact .inl (a O H t u _ x y Q tr h1 h2 q1 q)
  | none =>
    rw [q1] at e
    exact .inr (b O H t u _ x y Q tr h1 h2 e q)
theorem BoOk.or {r r' : R2} {g g' : T → T → Option Bool} (a : BoOk K w r g) (b : BoOk K w r' g') : BoOk K w (fun x y H Q => r x y H Q ∨ r' x y H Q) (fun t u => (g t u).orElse fun _ => g' t u) := by
  intro O H t u z x y Q tr h1 h2 e q
  replace e : ((g t u).orElse fun _ => g' t u) = some z := e
  cases q1 : g t u with
  | some z' =>
    rw [q1] at e
    cases e
    exact .inl (a O H t u _ x y Q tr h1 h2 q1 q)
  | none =>
    rw [q1] at e
    exact .inr (b O H t u _ x y Q tr h1 h2 e q)
/-- a + b of ints, texts, lists -/
def gAdd : T → T → Option T
  | .int a, .int b => some (.int (a + b))
  | .str a, .str b => if a.length + b.length ≤ 16777216 then some (.str (a ++ b)) else none
  | .lst a, .lst b => if small (a ++ b) then some (.lst (a ++ b)) else none
  | _, _ => none
abbrev rAddA : R2 := fun x y H Q => (rI0 fun i j => .int (i + j)) x y H Q ∨ (fun x y H Q => (∃ i j, x = .str i ∧ y = .str j ∧ i.length + j.length ≤ sizeLine ∧ Q (.str (i ++ j)) H) ∨ rCat x y H Q) x y H Q
theorem or_add : OpR X (binaryOp .Add) rAddA := op_add.or (op_add_str.or op_cat)
theorem OpOk.congr {r : R2} {g g' : T → T → Option T} (a : OpOk K w r g) (h : ∀ t u z, g' t u = some z → g t u = some z) : OpOk K w r g' :=
  fun O H t u z x y Q tr h1 h2 e q => a O H t u z x y Q tr h1 h2 (h _ _ _ e) q
theorem ok_add : OpOk K w rAddA gAdd := (ok_rI0.or (ok_addS.or ok_cat)).congr fun t u z e => by
  cases t <;> cases u <;> first | (cases e; done) | exact e | skip
  rename_i a b
  show ((gAddS (.str a) (.str b)).orElse _) = some z
  have e' : gAddS (.str a) (.str b) = some z := e
  rw [e']; rfl
/-- as a new list -/
def gCatN : T → T → Option T := gCat
def OpNew (K : PySem.W.Frag) (w : World) (r : R2) (g : T → T → Option T) : Prop := ∀ (O : List Addr) (H : Hp) (t u z : T) (x y : V) (Q : VK), (∀ a ∈ O, H a ≠ none) →
  Rep K w O H t x → Rep K w O H u y → g t u = some z → (∀ p H', Same H H' → H p = none → Own K w (p :: O) H' z p → Q (.ref p) H') → r x y H Q
theorem ev_opN {c : C} {a b : Expr} {pos : Pos} {fa fb : PEv → PR T} {op : Operator} {r : R2} {g : T → T → Option T} (ho : OpR X (binaryOp op) r) (hr : OpNew c.K c.w r g) (ha : PE X a (tP c fa)) (hb : PE X b (tP c fb)) : PE X (.BinOp a op b pos) (tN c (pOp g fa fb)) :=
  PEm (pe_op ho ha hb) fun σ H Q h => by
    obtain ⟨ρ, O, re, po⟩ := h
    refine ⟨ρ, O, re, PoP.bind isN po fun t x H1 s1 b1 po1 => ⟨ρ, O, re.same s1, PoP.bind isN po1 fun u y H2 s2 b2 po2 => ?_⟩⟩
    cases q : g t u with
    | none => rw [q] at po2; exact po2.elim
    | some z =>
      rw [q] at po2
      exact hr O H2 t u z x y Q (re.same (s1.trans s2)).trk (b1.same s2) b2 q fun p H' s n o => po2 p H' ((s1.trans s2).trans s) ((s1.trans s2).free n) o
theorem new_cat : OpNew K w rCat gCat := by
  intro O H t u z x y Q tr a b e q
  cases t <;> cases u <;> first | (cases e; done) | skip
  simp only [gCat] at e
  split at e
  · rename_i h
    cases e
    obtain ⟨p1, v1, e1, n1, h1, r1⟩ := of_lst a
    obtain ⟨p2, v2, e2, n2, h2, r2⟩ := of_lst b
    refine ⟨p1, p2, v1, v2, e1, e2, h1, h2, ?_, fun p n => ?_⟩
    · have := small_len (r1.append r2) h
      rw [List.length_append] at this; exact this
    · exact q _ _ (same_upd n) n (own_lst n (r1.append r2))
  · cases e
abbrev gSub : T → T → Option T := gInt fun a b => .int (a - b)
theorem ok_sub : OpOk K w (rI0 fun i j => .int (i - j)) gSub := ok_rI0
def mulC (a b : Int) : Bool := decide ((Builtin.Int.intBits a : Int) + (Builtin.Int.intBits b : Int) ≤ 134217728)
theorem mulC_ok {i j : Int} (h : mulC i j = true) : CMulX i j := by
  exact of_decide_eq_true (p := (Builtin.Int.intBits i : Int) + (Builtin.Int.intBits j : Int) ≤ 134217728) h
def gRep : T → T → Option T
  | .lst a, .int k => if k ≤ 1000000 ∧ a.length * k.toNat ≤ 16777216 then some (.lst (List.replicate k.toNat a).flatten) else none
  | _, _ => none
theorem Reps.flat {ts : List T} {vs : List V} (r : Reps K w O H ts vs) : ∀ n : Nat, Reps K w O H (List.replicate n ts).flatten (List.replicate n vs).flatten
  | 0 => by simpa using Reps.nil
  | n + 1 => by
    rw [List.replicate_succ, List.replicate_succ, List.flatten_cons, List.flatten_cons]
    exact r.append (Reps.flat r n)
/-- list * int, the int not far below nought -/
def gRepN : T → T → Option T
  | .lst a, .int k => if (-1000000 ≤ k ∧ k ≤ 1000000) ∧ a.length * k.toNat ≤ 16777216 then some (.lst (List.replicate k.toNat a).flatten) else none
  | _, _ => none
theorem new_rep_ : OpNew K w rRep gRepN := by
  intro O H t u z x y Q tr a b e q
  cases t <;> cases u <;> first | (cases e; done) | skip
  simp only [gRepN] at e
  split at e
  · rename_i h
    cases e
    obtain ⟨p1, v1, e1, n1, h1, r1⟩ := of_lst a
    refine ⟨p1, _, v1, e1, of_int b, h1, by omega, by omega, ?_, fun p n => q _ _ (same_upd n) n (own_lst n (r1.flat _))⟩
    rw [← r1.len, sizeLine_eq]; exact h.2
  · cases e
theorem OpNew.ok {r : R2} {g : T → T → Option T} (a : OpNew K w r g) : OpOk K w r g := fun O H t u z x y Q tr h1 h2 e q =>
  a O H t u z x y Q tr h1 h2 e fun p H' s n o => q _ H' s (new_rep tr n o)
def gMul : T → T → Option T
  | .int a, .int b => if mulC a b then some (.int (a * b)) else none
  | .lst a, .int k => if (-1000000 ≤ k ∧ k ≤ 1000000) ∧ a.length * k.toNat ≤ 16777216 then some (.lst (List.replicate k.toNat a).flatten) else none
  | _, _ => none
abbrev rMulA : R2 := fun x y H Q => (rI CMulX fun i j => .int (i * j)) x y H Q ∨ rRep x y H Q
theorem or_mul : OpR X (binaryOp .Mult) rMulA := op_mulX.or op_rep
theorem ok_mul : OpOk K w rMulA gMul := ((ok_rI (D := CMulX) (p := mulC) fun _ _ h => mulC_ok h).or new_rep_.ok).congr fun t u z e => by
  cases t <;> cases u <;> first | (cases e; done) | skip
  · simp only [gMul] at e
    show (gIntC mulC _ _ _).orElse _ = _
    simp only [gIntC]
    split at e
    · rename_i h; rw [if_pos h]; exact e
    · cases e
  · exact e
def gMod : T → T → Option T := gIntC (fun _ b => decide (0 < b)) fun a b => a % b
theorem ok_mod : OpOk K w (rI (fun _ j => 0 < j) fun i j => .int (i % j)) gMod := ok_rI fun _ _ h => of_decide_eq_true h
def gDiv : T → T → Option T := gIntC (fun _ b => decide (0 < b ∧ b < 1073741824)) fun a b => a / b
theorem ok_div : OpOk K w (rI CDiv fun i j => .int (i / j)) gDiv := ok_rI fun i j h => of_decide_eq_true (p := 0 < j ∧ j < 1073741824) h
def CPowX (i j : Int) : Prop := 0 ≤ j ∧ (Builtin.Int.intBits i : Int) * j ≤ 2 ^ 27
theorem op_powX : OpR X (binaryOp .Pow) (rI CPowX fun i j => .int (i ^ j.toNat)) := opI fun _ _ _ _ _ _ _ hc q => PyProof.Rows.pow_int hc.1 hc.2 q
def gPow : T → T → Option T := gIntC (fun a b => decide (0 ≤ b ∧ (Builtin.Int.intBits a : Int) * b ≤ 2 ^ 27)) fun a b => a ^ b.toNat
theorem ok_pow : OpOk K w (rI CPowX fun i j => .int (i ^ j.toNat)) gPow := ok_rI fun i j h => of_decide_eq_true (p := 0 ≤ j ∧ (Builtin.Int.intBits i : Int) * j ≤ 2 ^ 27) h
def gNeg : T → Option T
  | .int i => some (.int (-i))
  | _ => none
def pU (g : T → Option T) (f : PEv → PR T) : PEv → PR T := fun ρ => (f ρ).bind fun t => PR.of (g t)
theorem ev_neg {c : C} {a : Expr} {pos : Pos} {f : PEv → PR T} (ha : PE X a (tP c f)) : PE X (.UnaryOp .USub a pos) (tP c (pU gNeg f)) := PEm (pe_un un_neg ha) fun σ H Q ⟨ρ, O, re, po⟩ =>
  ⟨ρ, O, re, PoP.bind isP po fun t x H1 s1 b1 po1 => by
    cases t with
    | int i => exact ⟨i, of_int b1, po1 _ H1 s1 rep_int⟩
    | _ => exact po1.elim⟩

/-! ### comparisons -/
def gCmp (p : Int → Int → Bool) : T → T → Option Bool
  | .int a, .int b => some (p a b)
  | _, _ => none
theorem ok_cmp {p : Int → Int → Bool} : BoOk K w (rI0 fun i j => .bl (p i j)) (gCmp p) := by
  intro O H t u z x y Q tr a b e q
  cases t <;> cases u <;> first | (cases e; done) | skip
  cases e
  exact ⟨_, _, of_int a, of_int b, q⟩
def gEq : T → T → Option Bool := fun t u => t.d.bind fun d => u.d.bind fun e => if SeqAt.shaped d && SeqAt.shaped e then some (PyData.eqv d e) else none
def gNe : T → T → Option Bool := fun t u => (gEq t u).map not
theorem ok_eq : BoOk K w (rEqD K) gEq := by
  intro O H t u z x y Q tr a b e q
  unfold gEq at e
  cases e1 : t.d with
  | none => rw [e1] at e; cases e
  | some d =>
    rw [e1] at e
    cases e2 : u.d with
    | none => rw [e2] at e; cases e
    | some d2 =>
      rw [e2] at e
      simp only [Option.bind_some] at e
      split at e
      · rename_i h
        cases e
        rw [Bool.and_eq_true] at h
        exact ⟨d, d2, Rep.dp t x d a e1, Rep.dp u y d2 b e2, h.1, h.2, q⟩
      · cases e
theorem ok_ne : BoOk K w (rNeD K) gNe := by
  intro O H t u z x y Q tr a b e q
  unfold gNe gEq at e
  cases e1 : t.d with
  | none => rw [e1] at e; cases e
  | some d =>
    rw [e1] at e
    cases e2 : u.d with
    | none => rw [e2] at e; cases e
    | some d2 =>
      rw [e2] at e
      simp only [Option.bind_some] at e
      split at e
      · rename_i h
        cases e
        rw [Bool.and_eq_true] at h
        exact ⟨d, d2, Rep.dp t x d a e1, Rep.dp u y d2 b e2, h.1, h.2, q⟩
      · cases e
/-- x in a list or tuple -/
def T.items : T → Option (List T)
  | .lst ts => some ts
  | .tup ts => some ts
  | .scr ts => some ts
  | _ => none
def T.isFlat : T → Bool
  | .non => true
  | .bl _ => true
  | .int _ => true
  | .str _ => true
  | _ => false
def T.fv : T → V
  | .non => .non
  | .bl b => .bl b
  | .int i => .int i
  | .str x => .str x
  | _ => .non
theorem Rep.fv {t : T} {v : V} (h : Rep K w O H t v) (f : t.isFlat = true) : v = t.fv := by
  cases t with
  | non => exact of_non h
  | bl b => exact of_bl h
  | int b => exact of_int h
  | str b => exact of_str h
  | _ => cases f
theorem T.fvFlat {t : T} (f : t.isFlat = true) : flatV t.fv = true := by
  cases t <;> first | rfl | cases f
theorem Reps.fv : ∀ {ts : List T} {vs : List V}, Reps K w O H ts vs → ts.all T.isFlat = true → vs = ts.map T.fv ∧ vs.all flatV = true
  | [], vs, h, f => by unfold Reps at h; subst h; exact ⟨rfl, rfl⟩
  | t :: ts, vs, h, f => by
    unfold Reps at h
    obtain ⟨v, r, e, a, b⟩ := h
    subst e
    rw [List.all_cons, Bool.and_eq_true] at f
    obtain ⟨h1, h2⟩ := Reps.fv b f.2
    have h3 := a.fv f.1
    refine ⟨by rw [List.map_cons, ← h3, ← h1], ?_⟩
    rw [List.all_cons, h2, h3, T.fvFlat f.1]; rfl
def gIn : T → T → Option Bool := fun t u => u.items.bind fun us => if t.isFlat && us.all T.isFlat then some (inV t.fv (us.map T.fv)) else none
theorem Rep.sq {t : T} {v : V} {us : List T} (h : Rep K w O H t v) (e : t.items = some us) : ∃ p vs, v = .ref p ∧ (SqL K H p vs ∨ SqT K H p vs) ∧ Reps K w O H us vs := by
  cases t with
  | lst ts => cases e; obtain ⟨p, vs, e1, _, hp, r⟩ := of_lst h; exact ⟨p, vs, e1, .inl (SqL.of hp), r⟩
  | tup ts => cases e; obtain ⟨p, vs, e1, hp, r⟩ := of_tup h; exact ⟨p, vs, e1, .inr hp.sq, r⟩
  | scr ts => cases e; obtain ⟨p, vs, e1, hp, r⟩ := of_scr h; exact ⟨p, vs, e1, .inl hp.sq, r⟩
  | _ => cases e
theorem ok_in : BoOk K w (rIn K false) gIn := by
  intro O H t u z x y Q tr a b e q
  unfold gIn at e
  cases e1 : u.items with
  | none => rw [e1] at e; cases e
  | some us =>
    rw [e1] at e
    simp only [Option.bind_some] at e
    split at e
    · rename_i h
      cases e
      rw [Bool.and_eq_true] at h
      obtain ⟨p, vs, e2, hs, r⟩ := b.sq e1
      obtain ⟨h3, h4⟩ := r.fv h.2
      have h5 := a.fv h.1
      refine ⟨p, vs, e2, hs, by rw [h5]; exact T.fvFlat h.1, h4, ?_⟩
      rw [if_neg Bool.false_ne_true, h3, h5]; exact q
    · cases e
def gNin : T → T → Option Bool := fun t u => (gIn t u).map not
theorem ok_nin : BoOk K w (rIn K true) gNin := by
  intro O H t u z x y Q tr a b e q
  unfold gNin gIn at e
  cases e1 : u.items with
  | none => rw [e1] at e; cases e
  | some us =>
    rw [e1] at e
    simp only [Option.bind_some] at e
    split at e
    · rename_i h
      cases e
      rw [Bool.and_eq_true] at h
      obtain ⟨p, vs, e2, hs, r⟩ := b.sq e1
      obtain ⟨h3, h4⟩ := r.fv h.2
      have h5 := a.fv h.1
      refine ⟨p, vs, e2, hs, by rw [h5]; exact T.fvFlat h.1, h4, ?_⟩
      rw [if_pos rfl, h3, h5]; exact q
    · cases e
/-- is None -/
def T.isN : T → Bool
  | .non => true
  | _ => false
theorem Rep.isN {t : T} {v : V} (h : Rep K w O H t v) : decide (v = .non) = t.isN := by
  cases t with
  | non => rw [of_non h]; rfl
  | bl b => rw [of_bl h]; rfl
  | int b => rw [of_int h]; rfl
  | str b => rw [of_str h]; rfl
  | ty b => rw [of_ty h]; rfl
  | fn b => rw [of_fn h]; rfl
  | lst ts => obtain ⟨p, vs, e1, _⟩ := of_lst h; rw [e1]; rfl
  | tup ts => obtain ⟨p, vs, e1, _⟩ := of_tup h; rw [e1]; rfl
  | scr ts => obtain ⟨p, vs, e1, _⟩ := of_scr h; rw [e1]; rfl
  | dct ks ts => obtain ⟨p, vs, e1, _⟩ := of_dct h; rw [e1]; rfl
  | set ts => obtain ⟨p, e1, _⟩ := of_set h; rw [e1]; rfl
def pIsN (f : PEv → PR T) : PEv → PR Bool := fun ρ => (f ρ).bind fun t => .ok t.isN
def pNotN (f : PEv → PR T) : PEv → PR Bool := fun ρ => (f ρ).bind fun t => .ok (!t.isN)
section
variable {c : C} {a : Expr} {pos p2 : Pos} {j : Nat} {f : PEv → PR T}
theorem bindB {β : Type} (r : PR T) (k : T → Bool) : ((r.bind fun t => PR.ok (k t)).bind fun b => PR.ok (T.bl b)) = r.bind fun t => PR.ok (T.bl (k t)) := by cases r <;> rfl
theorem ev_isN (ha : PE X a (tP c f)) : PE X (.Compare a [.Is] [.Constant .none j p2] pos) (tP c (pOfB (pIsN f))) := PEm (pe_cmp (pc_isN ha)) fun σ H Q ⟨ρ, O, re, po⟩ =>
  ⟨ρ, O, re, PoP.bind isP ((bindB (β := Unit) (f ρ) _) ▸ po : PoP c O H ((f ρ).bind fun t => .ok (.bl t.isN)) Q) fun t x H1 s1 b1 po1 => by rw [b1.isN]; exact po1 _ H1 s1 rep_bl⟩
theorem ev_notN (ha : PE X a (tP c f)) : PE X (.Compare a [.IsNot] [.Constant .none j p2] pos) (tP c (pOfB (pNotN f))) := PEm (pe_cmp (pc_notN ha)) fun σ H Q ⟨ρ, O, re, po⟩ =>
  ⟨ρ, O, re, PoP.bind isP ((bindB (β := Unit) (f ρ) _) ▸ po : PoP c O H ((f ρ).bind fun t => .ok (.bl (!t.isN))) Q) fun t x H1 s1 b1 po1 => by rw [b1.isN]; exact po1 _ H1 s1 rep_bl⟩
theorem et_isN (ha : PE X a (tP c f)) : PT X (.Compare a [.Is] [.Constant .none j p2] pos) (tTs c (pIsN f)) := PTm (pt_cmp (pc_isN ha)) fun σ H Q ⟨ρ, O, re, po⟩ =>
  ⟨ρ, O, re, PoP.bind isT po fun t x H1 s1 b1 po1 => ⟨_, by rw [b1.isN], po1 H1 s1⟩⟩
theorem et_notN (ha : PE X a (tP c f)) : PT X (.Compare a [.IsNot] [.Constant .none j p2] pos) (tTs c (pNotN f)) := PTm (pt_cmp (pc_notN ha)) fun σ H Q ⟨ρ, O, re, po⟩ =>
  ⟨ρ, O, re, PoP.bind isT po fun t x H1 s1 b1 po1 => ⟨_, by rw [b1.isN], po1 H1 s1⟩⟩
end

/-! ### subscripts, slices -/
def gIx : T → T → Option T := fun t u => match u with
  | .int i => t.items.bind fun ts => atI ts i
  | _ => none
theorem Reps.atI {ts : List T} {vs : List V} {i : Int} {t : T} (r : Reps K w O H ts vs) (e : L2.atI ts i = some t) : ∃ v, L2.atI vs i = some v ∧ Rep K w O H t v := by
  unfold L2.atI at e ⊢
  rw [← r.len]
  cases q : ixN ts.length i with
  | none => rw [q] at e; cases e
  | some j => rw [q] at e; exact r.get e
theorem ok_ix : OpOk K w (rIx K) gIx := by
  intro O H t u z x y Q tr a b e q
  unfold gIx at e
  cases u with
  | int i =>
    simp only at e
    cases e1 : t.items with
    | none => rw [e1] at e; cases e
    | some us =>
      rw [e1] at e
      obtain ⟨p, vs, e2, hs, r⟩ := a.sq e1
      obtain ⟨v, h1, h2⟩ := r.atI e
      rcases hs with hs | hs
      · exact .inl ⟨p, vs, i, v, e2, of_int b, hs, h1, q _ H (Same.refl H) h2⟩
      · exact .inr (.inl ⟨p, vs, i, v, e2, of_int b, hs, h1, q _ H (Same.refl H) h2⟩)
  | _ => cases e
theorem ev_ix {c : C} {a b : Expr} {pos : Pos} {fa fb : PEv → PR T} (ha : PE X a (tP c fa)) (hb : PE X b (tP c fb)) (hs : PlainIx b := by exact fun _ _ => rfl) (hK : X.K = c.K := by rfl) : PE X (.Subscript a b pos) (tP c (pOp gIx fa fb)) :=
  PEm (pe_ix ix_seq ha hb hs) fun _ _ _ h => by rw [hK]; exact rd_op ok_ix h
def cutT (ts : List T) (lo hi : Option Int) : List T := (ts.drop (HT.sIx ts.length 0 lo)).take (HT.sIx ts.length ts.length hi - HT.sIx ts.length 0 lo)
theorem Reps.cut {ts : List T} {vs : List V} (r : Reps K w O H ts vs) (lo hi : Option Int) : Reps K w O H (cutT ts lo hi) (cutV vs lo hi) := by
  unfold cutT cutV
  rw [r.len]
  exact (r.drop _).take _
/-- a slice's end -/
def pNoPart : PEv → PR (Option Int) := fun _ => .ok none
def pPart (f : PEv → PR T) : PEv → PR (Option Int) := fun ρ => (f ρ).bind fun t => match t with
  | .int i => .ok (some i)
  | _ => .bad
def PoO (c : C) (H : Hp) (r : PR (Option Int)) (Q : Option Int → Hp → Prop) : Prop := match r with
  | .ok i => ∀ H', Same H H' → Q i H'
  | .ex k t => c.WT k t
  | .bad => False
def tPt (c : C) (f : PEv → PR (Option Int)) : TO := fun σ H Q => ∃ ρ O, PRel c O H σ ρ ∧ PoO c H (f ρ) Q
theorem PoO.bind {c : C} {β : Type} {P : PR β → Prop} (ip : IsP c P) {r : PR (Option Int)} {k : Option Int → PR β} {Q : Option Int → Hp → Prop} (h : P (r.bind k))
    (q : ∀ t H1, Same H H1 → P (k t) → Q t H1) : PoO c H r Q := by
  cases r with
  | ok t => exact fun H1 s => q t H1 s h
  | ex k' t => exact ip.ex _ _ h
  | bad => exact ip.bad h
theorem eo_none {c : C} : PO X none (tPt c pNoPart) := ⟨fun pins s σ H Q I ⟨ρ, O, re, po⟩ => po_none.run pins s σ H Q I (po H (Same.refl H))⟩
theorem eo_some {c : C} {e : Expr} {f : PEv → PR T} (h : PE X e (tP c f)) : PO X (some e) (tPt c (pPart f)) := ⟨fun pins s σ H Q I ⟨ρ, O, re, po⟩ => (po_some h).run pins s σ H Q I ⟨ρ, O, re, by
  unfold pPart at po
  cases q : f ρ with
  | ok t =>
    rw [q] at po
    cases t with
    | int i => intro x H1 s1 b1; exact ⟨i, of_int b1, po H1 s1⟩
    | _ => exact po.elim
  | ex k t => rw [q] at po; exact po
  | bad => rw [q] at po; exact po⟩⟩
def pSl (f : PEv → PR T) (l h : PEv → PR (Option Int)) : PEv → PR T := fun ρ => (f ρ).bind fun t => (l ρ).bind fun lo => (h ρ).bind fun hi => PR.of (match t with
  | .lst ts => some (.lst (cutT ts lo hi))
  | .scr ts => some (.lst (cutT ts lo hi))
  | _ => none)
theorem ev_sl {c : C} {e : Expr} {lo hi : Option Expr} {p2 pos : Pos} {f : PEv → PR T} {l h : PEv → PR (Option Int)} (he : PE X e (tP c f)) (hl : PO X lo (tPt c l)) (hh : PO X hi (tPt c h)) (hK : X.K = c.K := by rfl) : PE X (.Subscript e (.Slice lo hi none p2) pos) (tN c (pSl f l h)) :=
  PEm (pe_slice sl_list he hl hh) fun σ H Q ⟨ρ, O, re, po⟩ => ⟨ρ, O, re, PoP.bind isN po fun t x H1 s1 b1 po1 => ⟨ρ, O, re.same s1, PoO.bind isN po1 fun i H2 s2 po2 => ⟨ρ, O, re.same (s1.trans s2), PoO.bind isN po2 fun j H3 s3 po3 => by
    have b3 := b1.same (s2.trans s3)
    have tr := (re.same ((s1.trans s2).trans s3)).trk
    have sa := (s1.trans s2).trans s3
    cases t with
    | lst ts =>
      obtain ⟨p, vs, e1, _, hp, r⟩ := of_lst b3
      exact ⟨p, vs, e1, SqL.of hp, fun q n => po3 q _ (sa.trans (same_upd n)) (sa.free n) (own_lst n (r.cut i j))⟩
    | scr ts =>
      obtain ⟨p, vs, e1, hp, r⟩ := of_scr b3
      exact ⟨p, vs, e1, by rw [hK]; exact hp.sq, fun q n => po3 q _ (sa.trans (same_upd n)) (sa.free n) (own_lst n (r.cut i j))⟩
    | _ => exact po3.elim⟩⟩⟩
/-- xs[::-1] -/
def gRev : T → Option T
  | .lst ts => some (.lst ts.reverse)
  | _ => none
theorem ev_rev {c : C} {e : Expr} {k : Nat} {p1 p2 p3 pos : Pos} {f : PEv → PR T} (he : PE X e (tP c f)) : PE X (.Subscript e (.Slice none none (some (.UnaryOp .USub (.Constant (.int 1) k p1) p2)) p3) pos) (tN c (pU gRev f)) :=
  PEm (pe_revL he) fun σ H Q ⟨ρ, O, re, po⟩ => ⟨ρ, O, re, PoP.bind isN po fun t x H1 s1 b1 po1 => by
    cases t with
    | lst ts =>
      obtain ⟨p, vs, e1, _, hp, r⟩ := of_lst b1
      exact ⟨p, vs, e1, SqL.of hp, fun q n => po1 q _ (s1.trans (same_upd n)) (s1.free n) (own_lst n r.reverse)⟩
    | _ => exact po1.elim⟩

/-! ### built-in functions -/
def gLen : List T → Option T
  | [.str x] => if x.length ≤ 16777216 then some (.int x.length) else none
  | [t] => t.items.map fun ts => .int ts.length
  | _ => none
theorem Reps.one {ts : List T} {xs : List V} {t : T} (r : Reps K w O H [t] xs) : ∃ x, xs = [x] ∧ Rep K w O H t x := by
  unfold Reps at r
  obtain ⟨v, r', e, a, b⟩ := r
  unfold Reps at b
  subst b
  exact ⟨v, e, a⟩
theorem Reps.two {xs : List V} {t u : T} (r : Reps K w O H [t, u] xs) : ∃ x y, xs = [x, y] ∧ Rep K w O H t x ∧ Rep K w O H u y := by
  unfold Reps at r
  obtain ⟨v, r', e, a, b⟩ := r
  obtain ⟨y, e2, b2⟩ := Reps.one (ts := []) b
  subst e2
  exact ⟨v, y, e, a, b2⟩
theorem ok_len : CallOk K w (fun xs H Q => ∃ x n, xs = [x] ∧ LenV K x H n ∧ Q (.int n) H) gLen := by
  intro O H ts z xs Q tr r e q
  match ts, e with
  | [t], e =>
    obtain ⟨x, e1, a⟩ := Reps.one (ts := []) r
    cases t with
    | str y =>
      simp only [gLen] at e
      split at e
      · rename_i h
        cases e
        exact ⟨x, _, e1, by rw [of_str a]; exact ⟨by rw [sizeLine_eq]; exact h, rfl⟩, q _ H (Same.refl H) rep_int⟩
      · cases e
    | lst us =>
      cases e
      obtain ⟨p, vs, e2, _, hp, r2⟩ := of_lst a
      exact ⟨x, _, e1, by rw [e2]; exact .inl ⟨vs, SqL.of hp, rfl⟩, by rw [← r2.len]; exact q _ H (Same.refl H) rep_int⟩
    | tup us =>
      cases e
      obtain ⟨p, vs, e2, hp, r2⟩ := of_tup a
      exact ⟨x, _, e1, by rw [e2]; exact .inr ⟨vs, hp.sq, rfl⟩, by rw [← r2.len]; exact q _ H (Same.refl H) rep_int⟩
    | scr us =>
      cases e
      obtain ⟨p, vs, e2, hp, r2⟩ := of_scr a
      exact ⟨x, _, e1, by rw [e2]; exact .inl ⟨vs, hp.sq, rfl⟩, by rw [← r2.len]; exact q _ H (Same.refl H) rep_int⟩
    | _ => cases e
  | [], e => simp [gLen] at e
  | _ :: _ :: _, e => simp [gLen] at e
def gMax2 : List T → Option T
  | [.int a, .int b] => some (.int (if b > a then b else a))
  | _ => none
def gMin2 : List T → Option T
  | [.int a, .int b] => some (.int (if b < a then b else a))
  | _ => none
theorem ok_max2 : CallOk K w (fun xs H Q => ∃ i j, xs = [.int i, .int j] ∧ Q (.int (if j > i then j else i)) H) gMax2 := by
  intro O H ts z xs Q tr r e q
  unfold gMax2 at e
  split at e
  · cases e
    obtain ⟨x, y, e1, a, b⟩ := Reps.two r
    rw [of_int a, of_int b] at e1
    exact ⟨_, _, e1, q _ H (Same.refl H) rep_int⟩
  · cases e
theorem ok_min2 : CallOk K w (fun xs H Q => ∃ i j, xs = [.int i, .int j] ∧ Q (.int (if j < i then j else i)) H) gMin2 := by
  intro O H ts z xs Q tr r e q
  unfold gMin2 at e
  split at e
  · cases e
    obtain ⟨x, y, e1, a, b⟩ := Reps.two r
    rw [of_int a, of_int b] at e1
    exact ⟨_, _, e1, q _ H (Same.refl H) rep_int⟩
  · cases e
/-- a list of ints, bools -/
def T.ints : List T → Option (List Int)
  | [] => some []
  | .int i :: ts => (T.ints ts).map fun r => i :: r
  | _ => none
def T.bls : List T → Option (List Bool)
  | [] => some []
  | .bl i :: ts => (T.bls ts).map fun r => i :: r
  | _ => none
theorem Reps.ints : ∀ {ts : List T} {vs : List V} {ns : List Int}, Reps K w O H ts vs → T.ints ts = some ns → vs = ns.map V.int
  | [], vs, ns, r, e => by unfold Reps at r; cases e; exact r
  | t :: ts, vs, ns, r, e => by
    unfold Reps at r
    obtain ⟨v, r', e1, a, b⟩ := r
    cases t with
    | int i =>
      unfold T.ints at e
      cases q : T.ints ts with
      | none => rw [q] at e; cases e
      | some ms => rw [q] at e; cases e; rw [e1, of_int a, Reps.ints b q]; rfl
    | _ => cases e
theorem Reps.bls : ∀ {ts : List T} {vs : List V} {ns : List Bool}, Reps K w O H ts vs → T.bls ts = some ns → vs = ns.map V.bl
  | [], vs, ns, r, e => by unfold Reps at r; cases e; exact r
  | t :: ts, vs, ns, r, e => by
    unfold Reps at r
    obtain ⟨v, r', e1, a, b⟩ := r
    cases t with
    | bl i =>
      unfold T.bls at e
      cases q : T.bls ts with
      | none => rw [q] at e; cases e
      | some ms => rw [q] at e; cases e; rw [e1, of_bl a, Reps.bls b q]; rfl
    | _ => cases e
theorem reps_ints : ∀ ns : List Int, Reps K w O H (ns.map T.int) (ns.map V.int)
  | [] => Reps.nil
  | n :: ns => Reps.cons rep_int (reps_ints ns)
def T.lints : T → Option (List Int)
  | .lst ts => T.ints ts
  | .scr ts => T.ints ts
  | _ => none
theorem Rep.lints {t : T} {v : V} {ns : List Int} (h : Rep K w O H t v) (e : t.lints = some ns) : ∃ p, v = .ref p ∧ SqL K H p (ns.map V.int) := by
  cases t with
  | lst ts => obtain ⟨p, vs, e1, _, hp, r⟩ := of_lst h; have := r.ints e; subst this; exact ⟨p, e1, SqL.of hp⟩
  | scr ts => obtain ⟨p, vs, e1, hp, r⟩ := of_scr h; have := r.ints e; subst this; exact ⟨p, e1, hp.sq⟩
  | _ => cases e
def gSum : List T → Option T
  | [t] => t.lints.map fun ns => .int ns.sum
  | _ => none
theorem ok_sum : CallOk K w (rSum K) gSum := by
  intro O H ts z xs Q tr r e q
  unfold gSum at e
  split at e
  · obtain ⟨x, e1, a⟩ := Reps.one (ts := []) r
    rename_i t
    cases e2 : t.lints with
    | none => rw [e2] at e; cases e
    | some ns =>
      rw [e2] at e; cases e
      obtain ⟨p, e3, hs⟩ := a.lints e2
      rw [e3] at e1
      exact ⟨p, ns, e1, hs, q _ H (Same.refl H) rep_int⟩
  · cases e
/-- the greatest, the least -/
def maxL : List Int → Int
  | [] => 0
  | n :: ns => ns.foldl max n
def minL : List Int → Int
  | [] => 0
  | n :: ns => ns.foldl min n
theorem foldl_max : ∀ (ns : List Int) (n : Int), (ns.foldl max n ∈ n :: ns) ∧ ∀ y ∈ n :: ns, y ≤ ns.foldl max n
  | [], n => ⟨List.mem_cons_self, fun y hy => by rw [List.mem_singleton.mp hy]; exact Int.le_refl _⟩
  | m :: ns, n => by
    obtain ⟨h1, h2⟩ := foldl_max ns (max n m)
    refine ⟨?_, fun y hy => ?_⟩
    · rw [List.foldl_cons]
      rcases List.mem_cons.mp h1 with h | h
      · rw [h]
        rcases Int.le_total n m with z | z
        · rw [Int.max_eq_right z]; simp
        · rw [Int.max_eq_left z]; simp
      · simp [h]
    · rw [List.foldl_cons]
      have h3 := h2 (max n m) List.mem_cons_self
      rcases List.mem_cons.mp hy with h | h
      · rw [h]; exact Int.le_trans (Int.le_max_left n m) h3
      · rcases List.mem_cons.mp h with h | h
        · rw [h]; exact Int.le_trans (Int.le_max_right n m) h3
        · exact h2 y (List.mem_cons_of_mem _ h)
theorem foldl_min : ∀ (ns : List Int) (n : Int), (ns.foldl min n ∈ n :: ns) ∧ ∀ y ∈ n :: ns, ns.foldl min n ≤ y
  | [], n => ⟨List.mem_cons_self, fun y hy => by rw [List.mem_singleton.mp hy]; exact Int.le_refl _⟩
  | m :: ns, n => by
    obtain ⟨h1, h2⟩ := foldl_min ns (min n m)
    refine ⟨?_, fun y hy => ?_⟩
    · rw [List.foldl_cons]
      rcases List.mem_cons.mp h1 with h | h
      · rw [h]
        rcases Int.le_total n m with z | z
        · rw [Int.min_eq_left z]; simp
        · rw [Int.min_eq_right z]; simp
      · simp [h]
    · rw [List.foldl_cons]
      have h3 := h2 (min n m) List.mem_cons_self
      rcases List.mem_cons.mp hy with h | h
      · rw [h]; exact Int.le_trans h3 (Int.min_le_left n m)
      · rcases List.mem_cons.mp h with h | h
        · rw [h]; exact Int.le_trans h3 (Int.min_le_right n m)
        · exact h2 y (List.mem_cons_of_mem _ h)
theorem maxL_spec {ns : List Int} (h : ns ≠ []) : maxL ns ∈ ns ∧ ∀ y ∈ ns, y ≤ maxL ns := by
  cases ns with
  | nil => exact absurd rfl h
  | cons n r => exact foldl_max r n
theorem minL_spec {ns : List Int} (h : ns ≠ []) : minL ns ∈ ns ∧ ∀ y ∈ ns, minL ns ≤ y := by
  cases ns with
  | nil => exact absurd rfl h
  | cons n r => exact foldl_min r n
def gMax1 : List T → Option T
  | [t] => t.lints.bind fun ns => if ns = [] then none else some (.int (maxL ns))
  | _ => none
def gMin1 : List T → Option T
  | [t] => t.lints.bind fun ns => if ns = [] then none else some (.int (minL ns))
  | _ => none
theorem ok_max1 : CallOk K w (rMax K) gMax1 := by
  intro O H ts z xs Q tr r e q
  unfold gMax1 at e
  split at e
  · obtain ⟨x, e1, a⟩ := Reps.one (ts := []) r
    rename_i t
    cases e2 : t.lints with
    | none => rw [e2] at e; cases e
    | some ns =>
      rw [e2] at e
      simp only [Option.bind_some] at e
      split at e
      · cases e
      · rename_i hne
        cases e
        obtain ⟨p, e3, hs⟩ := a.lints e2
        rw [e3] at e1
        obtain ⟨h1, h2⟩ := maxL_spec hne
        refine ⟨p, ns, e1, hs, List.length_pos_iff.mpr hne, fun m hm hy => ?_⟩
        have e4 : m = maxL ns := Int.le_antisymm (h2 m hm) (hy _ h1)
        rw [e4]
        exact q _ H (Same.refl H) rep_int
  · cases e
theorem ok_min1 : CallOk K w (rMin K) gMin1 := by
  intro O H ts z xs Q tr r e q
  unfold gMin1 at e
  split at e
  · obtain ⟨x, e1, a⟩ := Reps.one (ts := []) r
    rename_i t
    cases e2 : t.lints with
    | none => rw [e2] at e; cases e
    | some ns =>
      rw [e2] at e
      simp only [Option.bind_some] at e
      split at e
      · cases e
      · rename_i hne
        cases e
        obtain ⟨p, e3, hs⟩ := a.lints e2
        rw [e3] at e1
        obtain ⟨h1, h2⟩ := minL_spec hne
        refine ⟨p, ns, e1, hs, List.length_pos_iff.mpr hne, fun m hm hy => ?_⟩
        have e4 : m = minL ns := Int.le_antisymm (hy _ h1) (h2 m hm)
        rw [e4]
        exact q _ H (Same.refl H) rep_int
  · cases e
/-- sorted of ints -/
def sortL (ns : List Int) : List Int := ns.mergeSort (fun a b => decide (a ≤ b))
theorem sortL_perm (ns : List Int) : (sortL ns).Perm ns := List.mergeSort_perm ns _
theorem sortL_sorted (ns : List Int) : (sortL ns).Pairwise (· ≤ ·) := by
  have h := List.pairwise_mergeSort (le := fun a b : Int => decide (a ≤ b)) (fun a b c h1 h2 => by simp only [decide_eq_true_eq] at *; omega) (fun a b => by simp only [Bool.or_eq_true, decide_eq_true_eq]; omega) ns
  exact h.imp fun h => by simpa using h
theorem sorted_uniq {a b : List Int} (p : a.Perm b) (ha : a.Pairwise (· ≤ ·)) (hb : b.Pairwise (· ≤ ·)) : a = b :=
  p.eq_of_pairwise (fun x y _ _ h1 h2 => Int.le_antisymm h1 h2) ha hb
def gSorted : List T → Option T
  | [t] => t.lints.map fun ns => .lst ((sortL ns).map .int)
  | _ => none
theorem new_sorted : CallNew K w (rSortedI K) gSorted := by
  intro O H ts z xs Q tr r e q
  unfold gSorted at e
  split at e
  · obtain ⟨x, e1, a⟩ := Reps.one (ts := []) r
    rename_i t
    cases e2 : t.lints with
    | none => rw [e2] at e; cases e
    | some ns =>
      rw [e2] at e; cases e
      obtain ⟨p, e3, hs⟩ := a.lints e2
      rw [e3] at e1
      refine ⟨p, ns, e1, hs, fun ns' l hp hw hn => ?_⟩
      have e4 : ns' = sortL ns := sorted_uniq (hp.trans (sortL_perm ns).symm) hw (sortL_sorted ns)
      subst e4
      exact q l _ (same_upd hn) hn (own_lst hn (reps_ints _))
  · cases e
def gAll : List T → Option T
  | [.lst ts] => (T.bls ts).map fun bs => .bl (bs.all id)
  | _ => none
theorem ok_all : CallOk K w (rAll K) gAll := by
  intro O H ts z xs Q tr r e q
  unfold gAll at e
  split at e
  · obtain ⟨x, e1, a⟩ := Reps.one (ts := []) r
    rename_i us
    cases e2 : T.bls us with
    | none => rw [e2] at e; cases e
    | some ns =>
      rw [e2] at e; cases e
      obtain ⟨p, vs, e3, _, hp, r2⟩ := of_lst a
      have := r2.bls e2
      subst this
      rw [e3] at e1
      exact ⟨p, ns, e1, SqL.of hp, q _ H (Same.refl H) rep_bl⟩
  · cases e
def gInt1 : List T → Option T
  | [.int i] => some (.int i)
  | _ => none
theorem ok_int1 : CallOk K w (fun xs H Q => (∃ i, xs = [.int i] ∧ Q (.int i) H) ∨ ∃ k, xs = [.bl k] ∧ Q (.int (if k then 1 else 0)) H) gInt1 := by
  intro O H ts z xs Q tr r e q
  unfold gInt1 at e
  split at e
  · obtain ⟨x, e1, a⟩ := Reps.one (ts := []) r
    cases e
    rw [of_int a] at e1
    exact .inl ⟨_, e1, q _ H (Same.refl H) rep_int⟩
  · cases e
def gList : List T → Option T
  | [t] => t.items.map .lst
  | _ => none
theorem new_list : CallNew K w (fun xs H Q => ∃ p ys, xs = [.ref p] ∧ (SqL K H p ys ∨ SqT K H p ys) ∧ ∀ l, H l = none → Q (.ref l) (upd H l (.lst ys))) gList := by
  intro O H ts z xs Q tr r e q
  unfold gList at e
  split at e
  · obtain ⟨x, e1, a⟩ := Reps.one (ts := []) r
    rename_i t
    cases e2 : t.items with
    | none => rw [e2] at e; cases e
    | some us =>
      rw [e2] at e; cases e
      obtain ⟨p, vs, e3, hs, r2⟩ := a.sq e2
      rw [e3] at e1
      exact ⟨p, vs, e1, hs, fun l n => q l _ (same_upd n) n (own_lst n r2)⟩
  · cases e

/-! ### isinstance -/
def T.ty? : T → Option String
  | .non => some "NoneType"
  | .bl _ => some "bool"
  | .int _ => some "int"
  | .str _ => some "str"
  | .lst _ => some "list"
  | .tup _ => some "tuple"
  | .scr _ => some "list"
  | .dct _ _ => some "dict"
  | _ => none
theorem Rep.ty {t : T} {v : V} {n : String} (h : Rep K w O H t v) (e : t.ty? = some n) : TyX K H v (.type n) := by
  cases t with
  | non => cases e; rw [of_non h]; exact .base .non
  | bl b => cases e; rw [of_bl h]; exact .base (.bl b)
  | int b => cases e; rw [of_int h]; exact .base (.int b)
  | str b => cases e; rw [of_str h]; exact .base (.str b)
  | lst ts => cases e; obtain ⟨p, vs, e1, _, hp, r⟩ := of_lst h; rw [e1]; exact .base (.lst hp)
  | scr ts =>
    cases e
    obtain ⟨p, vs, e1, hp, r⟩ := of_scr h
    rw [e1]
    rcases hp with ⟨o, hp, _⟩ | ⟨o, its, n, hk, hc, _⟩
    · exact .base (.frz hp)
    · exact .kList hk hc
  | tup ts =>
    cases e
    obtain ⟨p, vs, e1, hp, r⟩ := of_tup h
    rw [e1]
    rcases hp with ⟨hp, _⟩ | ⟨o, its, n, hk, hc, _⟩
    · exact .base (.tup hp)
    · exact .kTuple hk hc
  | dct ks ts => cases e; obtain ⟨p, vs, e1, _, hp, _⟩ := of_dct h; rw [e1]; exact .base (.dK hp)
  | _ => cases e
def isTab (a b : String) : Bool := a == b || (a == "bool" && b == "int")
def tyNames : List String := ["NoneType", "bool", "int", "str", "list", "tuple", "dict"]
theorem kitB_tab : ∀ a ∈ tyNames, ∀ b ∈ ["bool", "int", "str", "list", "tuple", "dict"], kitB a b = some (isTab a b) := by decide +kernel
theorem T.ty_mem {t : T} {n : String} (e : t.ty? = some n) : n ∈ tyNames := by
  cases t <;> cases e <;> decide
def gIsi : List T → Option T
  | [t, .ty n] => t.ty?.bind fun m => if n ∈ ["bool", "int", "str", "list", "tuple", "dict"] then some (.bl (isTab m n)) else none
  | _ => none
theorem ok_isi : CallOk K w (rIsi K) gIsi := by
  intro O H ts z xs Q tr r e q
  unfold gIsi at e
  split at e
  · rename_i t n
    obtain ⟨x, y, e1, a, b⟩ := Reps.two r
    cases e2 : t.ty? with
    | none => rw [e2] at e; cases e
    | some m =>
      rw [e2] at e
      simp only [Option.bind_some] at e
      split at e
      · rename_i hn
        cases e
        refine ⟨x, y, .type m, .type n, _, e1, by rw [of_ty b]; exact .ty n, a.ty e2, kit_ty (kitB_tab m (T.ty_mem e2) n hn), q _ H (Same.refl H) rep_bl⟩
      · cases e
  · cases e
def T.tys : List T → Option (List String)
  | [] => some []
  | .ty n :: ts => if n ∈ ["bool", "int", "str", "list", "tuple", "dict"] then (T.tys ts).map fun r => n :: r else none
  | _ => none
theorem kitAny_tab {m : String} (hm : m ∈ tyNames) : ∀ ns : List String, (∀ n ∈ ns, n ∈ ["bool", "int", "str", "list", "tuple", "dict"]) → PySem.W.kitAny K (.type m) (ns.map Value.type) = some (ns.any fun n => isTab m n)
  | [], _ => rfl
  | n :: ns, h => by
    have h1 : PySem.W.kitOne K (.type m) (.type n) = some (isTab m n) := kit_ty (kitB_tab m hm n (h n List.mem_cons_self))
    have h2 := kitAny_tab hm ns fun x hx => h x (List.mem_cons_of_mem _ hx)
    rw [List.map_cons]
    refine kitAny_cons h1 (fun e => ?_) fun e => ?_
    · rw [h2, List.any_cons, e, Bool.false_or]
    · rw [List.any_cons, e, Bool.true_or]
theorem Reps.tys : ∀ {ts : List T} {vs : List V} {ns : List String}, Reps K w O H ts vs → T.tys ts = some ns → Paired ClsV vs (ns.map Value.type) ∧ ∀ n ∈ ns, n ∈ ["bool", "int", "str", "list", "tuple", "dict"]
  | [], vs, ns, r, e => by unfold Reps at r; cases e; subst r; exact ⟨.nil, fun _ h => by cases h⟩
  | t :: ts, vs, ns, r, e => by
    unfold Reps at r
    obtain ⟨v, r', e1, a, b⟩ := r
    cases t with
    | ty i =>
      unfold T.tys at e
      split at e
      · rename_i hi
        cases q : T.tys ts with
        | none => rw [q] at e; cases e
        | some ms =>
          rw [q] at e; cases e
          obtain ⟨h1, h2⟩ := Reps.tys b q
          rw [e1, of_ty a]
          refine ⟨.cons (.ty i) h1, fun n hn => ?_⟩
          rcases List.mem_cons.mp hn with h | h
          · rw [h]; exact hi
          · exact h2 n h
      · cases e
    | _ => cases e
/-- isinstance(x, (T1, T2, ..)): the tuple stands as laid -/
def gIsiT : List T → Option T
  | [t, .tup us] => t.ty?.bind fun m => (T.tys us).map fun ns => .bl (ns.any fun n => isTab m n)
  | _ => none
end
end TL

set_option Elab.async false
set_option linter.all false
set_option maxRecDepth 100000
/-! TL4: what is walked, targets, comprehensions. -/
namespace TL
open PySem PySem.Spec L2

/-! ### what is walked -/
/-- J walks ts while what is frozen stands -/
def ItOk (K : PySem.W.Frag) (w : World) (O : List Addr) (H : Hp) (J : It) (ts : List T) : Prop := ∀ O1 H1, Car O H O1 H1 → (∀ a ∈ O1, H1 a ≠ none) →
  (∀ (i : Nat) t, ts[i]? = some t → J.go i H1 ∧ ∀ x H2, J.yld i H1 x H2 → Same H1 H2 ∧ Rep K w O1 H2 t x) ∧ J.stop ts.length H1
def PoI (c : C) (O : List Addr) (H : Hp) (r : PR (List T)) (R : It → Hp → Prop) : Prop := match r with
  | .ok ts => ∀ J H', Same H H' → ItOk c.K c.w O H' J ts → R J H'
  | .ex k t => c.WT k t
  | .bad => False
def tIt (c : C) (f : PEv → PR (List T)) : TI := fun σ H R => ∃ ρ O, PRel c O H σ ρ ∧ PoI c O H (f ρ) R
theorem PIm {X : Cx} {tg e : Expr} {t t' : TI} (h : PI X tg e t) (k : ∀ σ H R, t' σ H R → t σ H R) : PI X tg e t' :=
  ⟨fun pins s σ H R I q => h.run pins s σ H R I (k σ H R q)⟩
theorem Car.trans {O O1 O2 : List Addr} {H H1 H2 : Hp} (a : Car O H O1 H1) (b : Car O1 H1 O2 H2) : Car O H O2 H2 := fun p o e n => b p o (a p o e n).1 (a p o e n).2
theorem ItOk.car {K : PySem.W.Frag} {w : World} {O O1 : List Addr} {H H1 : Hp} {J : It} {ts : List T} (h : ItOk K w O H J ts) (c : Car O H O1 H1) : ItOk K w O1 H1 J ts := fun O2 H2 c2 tr => h O2 H2 (c.trans c2) tr

section
variable {X : Cx} {K : PySem.W.Frag} {w : World} {c : C} {O : List Addr} {H H1 : Hp} {tg e : Expr} {f : PEv → PR T}
theorem it_lst {p : Addr} {ts : List T} {vs : List V} (n : p ∉ O) (hp : H p = some (.lst vs)) (r : Reps K w O H ts vs) : ItOk K w O H (Itl K p) ts := fun O1 H1 ca tr => by
  have h1 : SqL K H1 p vs := SqL.of (ca _ _ hp n).1
  have inj : ∀ xs, SqL K H1 p xs → vs = xs ∨ True := fun _ _ => .inr trivial
  refine ⟨fun i t e => ?_, ⟨vs, h1, Nat.le_of_eq r.len.symm⟩⟩
  obtain ⟨v, hv, rv⟩ := r.get e
  refine ⟨⟨vs, v, h1, hv⟩, fun x H2 hy => ?_⟩
  obtain ⟨e1, hx⟩ := hy
  subst e1
  have := hx vs h1
  rw [hv] at this
  cases this
  exact ⟨Same.refl _, rv.car ca⟩
theorem it_tup {p : Addr} {ts : List T} {vs : List V} (hp : FT K O H p vs) (r : Reps K w O H ts vs) : ItOk K w O H (Itt K p) ts := fun O1 H1 ca tr => by
  have h1 : SqT K H1 p vs := (hp.car ca).sq
  refine ⟨fun i t e => ?_, ⟨vs, h1, Nat.le_of_eq r.len.symm⟩⟩
  obtain ⟨v, hv, rv⟩ := r.get e
  refine ⟨⟨vs, v, h1, hv⟩, fun x H2 hy => ?_⟩
  obtain ⟨e1, hx⟩ := hy
  subst e1
  have := hx vs h1
  rw [hv] at this
  cases this
  exact ⟨Same.refl _, rv.car ca⟩
def pItL (f : PEv → PR T) : PEv → PR (List T) := fun ρ => (f ρ).bind fun t => match t with
  | .lst ts => .ok ts
  | _ => .bad
def pItT (f : PEv → PR T) : PEv → PR (List T) := fun ρ => (f ρ).bind fun t => match t with
  | .tup ts => .ok ts
  | _ => .bad
theorem ei_lst (he : PE X e (tP c f)) (hK : X.K = c.K := by rfl) : PI X tg e (tIt c (pItL f)) := PIm (pi_list he) fun σ H R ⟨ρ, O, re, po⟩ => ⟨ρ, O, re, by
  unfold pItL at po
  cases q : f ρ with
  | ok t =>
    rw [q] at po
    cases t with
    | lst ts =>
      intro x H1 s1 b1
      obtain ⟨p, vs, e1, n, hp, r⟩ := of_lst b1
      exact ⟨p, e1, ⟨vs, SqL.of hp⟩, by rw [hK]; exact po _ H1 s1 (it_lst n hp r)⟩
    | _ => exact po.elim
  | ex k t => rw [q] at po; exact po
  | bad => rw [q] at po; exact po⟩
theorem ei_tup (he : PE X e (tP c f)) (hK : X.K = c.K := by rfl) : PI X tg e (tIt c (pItT f)) := PIm (pi_tup he) fun σ H R ⟨ρ, O, re, po⟩ => ⟨ρ, O, re, by
  unfold pItT at po
  cases q : f ρ with
  | ok t =>
    rw [q] at po
    cases t with
    | tup ts =>
      intro x H1 s1 b1
      obtain ⟨p, vs, e1, hp, r⟩ := of_tup b1
      exact ⟨p, e1, ⟨vs, by rw [hK]; exact hp.sq⟩, by rw [hK]; exact po _ H1 s1 (it_tup hp r)⟩
    | _ => exact po.elim
  | ex k t => rw [q] at po; exact po
  | bad => rw [q] at po; exact po⟩
/-- range -/
def rngT (a : Int) (n : Nat) : List T := (List.range n).map fun (i : Nat) => T.int (a + (i : Int))
theorem rngT_get {a : Int} {n i : Nat} {t : T} (h : (rngT a n)[i]? = some t) : i < n ∧ t = .int (a + i) := by
  unfold rngT at h
  rw [List.getElem?_map] at h
  by_cases hi : i < n
  · rw [List.getElem?_range hi] at h; cases h; exact ⟨hi, rfl⟩
  · rw [List.getElem?_eq_none (by simpa using hi)] at h; cases h
theorem it_rng {a : Int} {n : Nat} : ItOk K w O H (Itr a n) (rngT a n) := fun O1 H1 ca tr => by
  refine ⟨fun i t e => ?_, by show n ≤ (rngT a n).length; simp [rngT]⟩
  obtain ⟨hi, et⟩ := rngT_get e
  refine ⟨hi, fun x H2 hy => ?_⟩
  obtain ⟨e1, hx⟩ := hy
  subst e1
  rw [et, hx]
  exact ⟨Same.refl _, rep_int⟩
def pRng1 (fs : PEv → PR (List T)) : PEv → PR (List T) := fun ρ => (fs ρ).bind fun ts => match ts with
  | [.int j] => if -1000000000000 ≤ j ∧ j ≤ 1000000000000 then .ok (rngT 0 j.toNat) else .bad
  | _ => .bad
def pRng2 (fs : PEv → PR (List T)) : PEv → PR (List T) := fun ρ => (fs ρ).bind fun ts => match ts with
  | [.int i, .int j] => if -1000000000000 ≤ i ∧ i ≤ 1000000000000 ∧ -1000000000000 ≤ j ∧ j ≤ 1000000000000 then .ok (rngT i (j - i).toNat) else .bad
  | _ => .bad
variable {fs : PEv → PR (List T)} {a b : Expr} {p pos : Pos}
theorem PoA.case {β : Type} {P : PR β → Prop} {r : PR (List T)} {k : List T → PR β} {Q : List V → Hp → Prop} (ip : IsP c P) (h : P (r.bind k))
    (q : ∀ t x H1, Same H H1 → Reps c.K c.w O H1 t x → P (k t) → Q x H1) : PoA c O H r Q := PoA.bind ip h q
theorem isI {R : It → Hp → Prop} : IsP c (PoI c O H · R) := ⟨fun _ _ h => h, fun h => h⟩
theorem ei_rng1 (hg : Gl X "range") (hm : X.mg "range" = none) (ha : PA X [a] (tAs c fs)) (hs : starEach [a] X.env = [(false, eval a X.env)] := by rfl) : PI X tg (.Call (.Name "range" p) [a] [] pos) (tIt c (pRng1 fs)) :=
  PIm (pi_range1 hg hm ha hs) fun σ H R ⟨ρ, O, re, po⟩ => ⟨ρ, O, re, PoA.bind isI po fun ts xs H1 s1 b1 po1 => by
    split at po1
    · rename_i j
      split at po1
      · obtain ⟨x, e1, h1⟩ := Reps.one (ts := []) b1
        rw [of_int h1] at e1
        exact ⟨j, e1, by omega, by omega, po1 _ H1 s1 it_rng⟩
      · exact po1.elim
    · exact po1.elim⟩
theorem ei_rng2 (hg : Gl X "range") (hm : X.mg "range" = none) (ha : PA X [a, b] (tAs c fs)) (hs : starEach [a, b] X.env = [(false, eval a X.env), (false, eval b X.env)] := by rfl) (hs2 : starEach [b] X.env = [(false, eval b X.env)] := by rfl) :
    PI X tg (.Call (.Name "range" p) [a, b] [] pos) (tIt c (pRng2 fs)) :=
  PIm (pi_range2 hg hm ha hs hs2) fun σ H R ⟨ρ, O, re, po⟩ => ⟨ρ, O, re, PoA.bind isI po fun ts xs H1 s1 b1 po1 => by
    split at po1
    · rename_i i j
      split at po1
      · obtain ⟨x, y, e1, h1, h2⟩ := Reps.two b1
        rw [of_int h1, of_int h2] at e1
        exact ⟨i, j, e1, ⟨by omega, by omega, by omega, by omega⟩, po1 _ H1 s1 it_rng⟩
      · exact po1.elim
    · exact po1.elim⟩
/-- enumerate -/
def enumT (ts : List T) : List T := ts.mapIdx fun i t => .tup [.int i, t]
def pEnum (fs : PEv → PR (List T)) : PEv → PR (List T) := fun ρ => (fs ρ).bind fun us => match us with
  | [.lst ts] => .ok (enumT ts)
  | _ => .bad
theorem it_enum {p : Addr} {ts : List T} {vs : List V} (n : p ∉ O) (hp : H p = some (.lst vs)) (r : Reps K w O H ts vs) : ItOk K w O H (Ite K p) (enumT ts) := fun O1 H1 ca tr => by
  have h1 : SqL K H1 p vs := SqL.of (ca _ _ hp n).1
  refine ⟨fun i t e => ?_, ⟨vs, h1, by simp [enumT, r.len]⟩⟩
  unfold enumT at e
  rw [List.getElem?_mapIdx] at e
  cases q : ts[i]? with
  | none => rw [q] at e; cases e
  | some u =>
    rw [q] at e; cases e
    obtain ⟨v, hv, rv⟩ := r.get q
    refine ⟨⟨vs, v, h1, hv⟩, fun x H2 hy => ?_⟩
    obtain ⟨A, x', e1, nA, e2, hx⟩ := hy
    have := hx vs h1
    rw [hv] at this
    cases this
    subst e1; subst e2
    exact ⟨same_upd nA, rep_tup tr nA (Reps.cons rep_int (Reps.cons (rv.car ca) Reps.nil))⟩
theorem ei_enum {elts : List Expr} {kk : Nat} {tpos : Pos} (hg : Gl X "enumerate") (hm : X.mg "enumerate" = none) (ha : PA X [e] (tAs c fs)) (hs : starEach [e] X.env = [(false, eval e X.env)] := by rfl) (hK : X.K = c.K := by rfl) :
    PI X (.Tuple elts kk tpos) (.Call (.Name "enumerate" p) [e] [] pos) (tIt c (pEnum fs)) :=
  PIm (pi_enum hg hm ha hs) fun σ H R ⟨ρ, O, re, po⟩ => ⟨ρ, O, re, PoA.bind isI po fun ts xs H1 s1 b1 po1 => by
    split at po1
    · rename_i us
      obtain ⟨x, e1, h1⟩ := Reps.one (ts := []) b1
      obtain ⟨q, vs, e2, n, hp, r⟩ := of_lst h1
      rw [e2] at e1
      exact ⟨q, vs, e1, SqL.of hp, by rw [hK]; exact po1 _ H1 s1 (it_enum n hp r)⟩
    · exact po1.elim⟩
/-- zip of two lists -/
def zipT (ts us : List T) : List T := List.zipWith (fun t u => .tup [t, u]) ts us
end

/-! ### targets -/
/-- is: the slots that are stored -/
def tG (c : C) (is : List Nat) (g : T → PEv → Option PEv) : TG := fun v σ H Q => ∃ ρ O t, PRel c O H σ ρ ∧ Rep c.K c.w O H t v ∧ match g t ρ with
  | some ρ' => ∀ σ', PRel c O H σ' ρ' → σ'.length = σ.length → (∀ j, j ∉ is → σ'[j]? = σ[j]?) → Q σ' H
  | none => False
theorem PGm {X : Cx} {e : Expr} {t t' : TG} (h : PG X e t) (k : ∀ v σ H Q, t' v σ H Q → t v σ H Q) : PG X e t' :=
  ⟨fun pins s σ H v u Q I r q => h.run pins s σ H v u Q I r (k v σ H Q q)⟩
def gN (i : Nat) : T → PEv → Option PEv := fun t ρ => if i < ρ.length then some (ρ.set i (some t)) else none
def gT2 (i j : Nat) : T → PEv → Option PEv := fun t ρ => match t with
  | .tup [a, b] => if i < ρ.length ∧ j < ρ.length then some ((ρ.set i (some a)).set j (some b)) else none
  | _ => none
def gT3 (i j k : Nat) : T → PEv → Option PEv := fun t ρ => match t with
  | .tup [a, b, d] => if i < ρ.length ∧ j < ρ.length ∧ k < ρ.length then some (((ρ.set i (some a)).set j (some b)).set k (some d)) else none
  | _ => none
section
variable {X : Cx} {c : C} {O : List Addr} {H : Hp} {σ : Sg} {ρ : PEv}
theorem PRel.set {i : Nat} {t : T} {v : V} (r : PRel c O H σ ρ) (hi : i < ρ.length) (b : Rep c.K c.w O H t v) : PRel c O H (σ.set i (some v)) (ρ.set i (some t)) where
  len := by rw [List.length_set, List.length_set]; exact r.len
  get := fun j u e => by
    by_cases h : i = j
    · subst h
      rw [List.getElem?_set_self hi] at e
      cases e
      exact ⟨v, by rw [List.getElem?_set_self (by rw [r.len]; exact hi)], b⟩
    · rw [List.getElem?_set_ne h] at e ⊢
      exact r.get j u e
  trk := r.trk
  fr := r.fr
  ou := r.ou
theorem eg_name {pos : Pos} {i : Nat} {x : Str} (h : PG X (.Name x pos) (gName i)) : PG X (.Name x pos) (tG c [i] (gN i)) := PGm h fun v σ H Q ⟨ρ, O, t, re, b, po⟩ => by
  unfold gN at po
  by_cases hi : i < ρ.length
  · rw [if_pos hi] at po
    exact po _ (re.set hi b) (List.length_set ..) fun j hj => List.getElem?_set_ne (fun z => hj (by simp [z]))
  · rw [if_neg hi] at po; exact po.elim
theorem eg_t2 {es : List Expr} {k : Nat} {pos : Pos} {i j : Nat} {n : Nat} (hn : n = 2) (h : PG X (.Tuple es k pos) (gTup X.K n (gCons (gName i) (gCons (gName j) gNil)))) (hK : X.K = c.K := by rfl) : PG X (.Tuple es k pos) (tG c [i, j] (gT2 i j)) := PGm h fun v σ H Q ⟨ρ, O, t, re, b, po⟩ => by
  subst hn
  cases hg : gT2 i j t ρ with
  | none => rw [hg] at po; exact po.elim
  | some ρ' =>
    rw [hg] at po
    unfold gT2 at hg
    split at hg
    · split at hg
      · rename_i hi
        cases hg
        obtain ⟨p, vs, e1, hp, r⟩ := of_tup b
        obtain ⟨x, y, e2, h1, h2⟩ := Reps.two r
        subst e2
        refine ⟨p, _, e1, by rw [hK]; exact hp.sq, rfl, x, [y], rfl, y, [], rfl, rfl, ?_⟩
        refine po _ ((re.set hi.1 h1).set (by rw [List.length_set]; exact hi.2) h2) (by rw [List.length_set, List.length_set]) fun z hz => ?_
        simp only [List.mem_cons, List.not_mem_nil, or_false, not_or] at hz
        rw [List.getElem?_set_ne (fun e => hz.2 e.symm), List.getElem?_set_ne (fun e => hz.1 e.symm)]
      · cases hg
    · cases hg
end
end TL

set_option Elab.async false
set_option linter.all false
set_option maxRecDepth 100000
/-! TL5: comprehensions. -/
namespace TL
open PySem PySem.Spec L2

def PR.nx {α β : Type} (r : PR α) (f : α → PR β) : PR β := match r with
  | .ok a => f a
  | _ => .bad
@[simp] theorem PR.nx_ok {α β : Type} (a : α) (f : α → PR β) : (PR.ok a).nx f = f a := rfl
@[simp] theorem PR.nx_ex {α β : Type} (k : Str) (t : T) (f : α → PR β) : (PR.ex k t).nx f = .bad := rfl
@[simp] theorem PR.nx_bad {α β : Type} (f : α → PR β) : (PR.bad).nx f = .bad := rfl
theorem PR.nx_inv {α β : Type} {r : PR α} {f : α → PR β} {b : β} (h : r.nx f = .ok b) : ∃ a, r = .ok a ∧ f a = .ok b := by
  cases r with
  | ok a => exact ⟨a, rfl, h⟩
  | ex k t => cases h
  | bad => cases h
theorem PR.bind_inv {α β : Type} {r : PR α} {f : α → PR β} {b : β} (h : r.bind f = .ok b) : ∃ a, r = .ok a ∧ f a = .ok b := by
  cases r with
  | ok a => exact ⟨a, rfl, h⟩
  | ex k t => cases h
  | bad => cases h
def wipeP (ρ : PEv) : List Nat → PEv
  | [] => ρ
  | v :: vs => (wipeP ρ vs).set v none
section
variable {c : C} {O : List Addr} {H : Hp} {σ : Sg} {ρ : PEv}
theorem PRel.nox (r : PRel c O H σ ρ) : PRel c.nox O H σ ρ := ⟨r.len, r.get, r.trk, r.fr, fun _ h => by cases h⟩
theorem PRel.unset {i : Nat} (r : PRel c O H σ ρ) : PRel c O H (σ.set i none) (ρ.set i none) where
  len := by rw [List.length_set, List.length_set]; exact r.len
  get := fun j u e => by
    by_cases h : i = j
    · subst h
      by_cases hi : i < ρ.length
      · rw [List.getElem?_set_self hi] at e; cases e
      · rw [List.getElem?_eq_none (by rw [List.length_set]; omega)] at e; cases e
    · rw [List.getElem?_set_ne h] at e ⊢
      exact r.get j u e
  trk := r.trk
  fr := r.fr
  ou := r.ou
theorem PRel.wipe (r : PRel c O H σ ρ) : ∀ vs : List Nat, PRel c O H (L2.wipe σ vs) (wipeP ρ vs)
  | [] => r
  | v :: vs => (PRel.wipe r vs).unset
theorem wipe_get (σ : Sg) (j : Nat) : ∀ vs : List Nat, (L2.wipe σ vs)[j]? = if j ∈ vs ∧ j < σ.length then some none else σ[j]?
  | [] => by simp [L2.wipe]
  | v :: vs => by
    unfold L2.wipe
    by_cases h : v = j
    · subst h
      by_cases hv : v < σ.length
      · rw [List.getElem?_set_self (by rw [wipe_length]; exact hv), if_pos ⟨List.mem_cons_self, hv⟩]
      · rw [if_neg (fun z => hv z.2), List.getElem?_eq_none (by rw [List.length_set, wipe_length]; omega), List.getElem?_eq_none (by omega)]
    · rw [List.getElem?_set_ne h, wipe_get σ j vs]
      have e : (j ∈ v :: vs ∧ j < σ.length) ↔ (j ∈ vs ∧ j < σ.length) := by
        constructor
        · rintro ⟨a, b⟩
          rcases List.mem_cons.mp a with a | a
          · exact absurd a.symm h
          · exact ⟨a, b⟩
        · rintro ⟨a, b⟩; exact ⟨List.mem_cons_of_mem _ a, b⟩
      by_cases z : j ∈ vs ∧ j < σ.length
      · rw [if_pos z, if_pos (e.mpr z)]
      · rw [if_neg z, if_neg fun y => z (e.mp y)]
theorem wipe_agree {σ σ' : Sg} {is vs : List Nat} (hl : σ'.length = σ.length) (ha : ∀ j, j ∉ is → σ'[j]? = (L2.wipe σ vs)[j]?) (hs : ∀ i ∈ is, i ∈ vs) : L2.wipe σ' vs = L2.wipe σ vs := by
  apply List.ext_getElem?
  intro j
  rw [wipe_get, wipe_get]
  by_cases hj : j ∈ vs
  · by_cases hb : j < σ.length
    · rw [if_pos ⟨hj, by omega⟩, if_pos ⟨hj, hb⟩]
    · rw [if_neg (fun z => hb (by omega)), if_neg (fun z => hb z.2), List.getElem?_eq_none (by omega), List.getElem?_eq_none (by omega)]
  · rw [if_neg (fun z => hj z.1), if_neg (fun z => hj z.1), ha j fun z => hj (hs j z), wipe_get, if_neg (fun z => hj z.1)]
theorem car_upd {p : Addr} {o : HO} (hp : p ∈ O) : Car O H O (upd H p o) := fun q x e n => by
  have z : q ≠ p := fun y => n (y ▸ hp)
  exact ⟨by rw [upd_ne z]; exact e, n⟩
end

/-- the loop of a list comprehension -/
def lcGo (tg : T → PEv → Option PEv) (tst : PEv → PR Bool) (elt : PEv → PR T) (ρ : PEv) : List T → PR (List T)
  | [] => .ok []
  | t :: ts => match tg t ρ with
    | none => .bad
    | some ρ1 => (tst ρ1).nx fun b => if b then (elt ρ1).nx fun y => (lcGo tg tst elt ρ ts).bind fun r => .ok (y :: r) else lcGo tg tst elt ρ ts
def pLc (it : PEv → PR (List T)) (vs : List Nat) (tg : T → PEv → Option PEv) (tst : PEv → PR Bool) (elt : PEv → PR T) : PEv → PR T := fun ρ => (it ρ).bind fun ts =>
  if small ts then (lcGo tg tst elt (wipeP ρ vs) ts).bind fun rs => .ok (.lst rs) else .bad
theorem lc_core' {c : C} {vs is : List Nat} {tg : T → PEv → Option PEv} {tst : PEv → PR Bool} {elt : PEv → PR T} (hs : ∀ i ∈ is, i ∈ vs) {σ : Sg} {H H1 : Hp} {Q : VK} {O : List Addr} {ρ : PEv} {ts rs : List T} {J : It} {D : Addr} (re : PRel c O H σ ρ) (s1 : Same H H1) (iok : ItOk c.K c.w O H1 J ts) (hlen : ts.length ≤ sizeLine)
    (e2 : lcGo tg tst elt (wipeP ρ vs) ts = .ok rs) (po : ∀ p H', Same H H' → H p = none → Own c.K c.w (p :: O) H' (.lst rs) p → Q (.ref p) H') (hD : H1 D = none) : ∃ W : Nat → Nat → Hp → Prop, (∃ m, W 0 m (upd H1 D (.lst []))) ∧ ∀ i m H, W i m H →
  (J.stop i H ∧ Q (.ref D) H) ∨ (J.go i H ∧ ∃ Nx : Hp → Prop, (∀ H', Nx H' → ∃ m', m' < m ∧ W (i + 1) m' H') ∧ ∀ x H', J.yld i H x H' → tG c.nox is tg x (L2.wipe σ vs) H' fun σ2 H2 => L2.wipe σ2 vs = L2.wipe σ vs ∧ tTs c.nox tst σ2 H2 fun b H3 =>
    if b = true then tP c.nox elt σ2 H3 fun y H4 => ∃ acc, H4 D = some (.lst acc) ∧ acc.length < sizeLine ∧ Nx (upd H4 D (.lst (acc ++ [y]))) else Nx H3) := by
  refine ⟨fun i m Hk => i + m = ts.length ∧ ∃ acc av rest, rs = acc ++ rest ∧ lcGo tg tst elt (wipeP ρ vs) (ts.drop i) = .ok rest ∧ acc.length ≤ i ∧ Hk D = some (.lst av) ∧ Reps c.K c.w (D :: O) Hk acc av ∧ Same H1 Hk,
    ⟨ts.length, by omega, [], [], rs, rfl, e2, Nat.le_refl _, upd_same, Reps.nil, same_upd hD⟩, fun i m Hk hW => ?_⟩
  obtain ⟨him, acc, av, rest, ers, ego, hacc, hDk, hr, hsm⟩ := hW
  have trk : ∀ a ∈ D :: O, Hk a ≠ none := fun a ha => by
    rcases List.mem_cons.mp ha with z | z
    · rw [z, hDk]; exact fun z => nomatch z
    · exact same_ne hsm (same_ne s1 (re.trk a z))
  have car : Car O H1 (D :: O) Hk := fun p o e n => ⟨hsm _ _ e, by
    simp only [List.mem_cons, not_or]; exact ⟨ne_of_none e hD, n⟩⟩
  obtain ⟨hgo, hstop⟩ := iok (D :: O) Hk car trk
  have s2 : Same H Hk := s1.trans hsm
  by_cases hi : i < ts.length
  · refine .inr ?_
    have hget : ts[i]? = some ts[i] := List.getElem?_eq_getElem hi
    obtain ⟨g1, gy⟩ := hgo i _ hget
    rw [List.drop_eq_getElem_cons hi] at ego
    unfold lcGo at ego
    split at ego
    · cases ego
    · rename_i ρ1 etg
      obtain ⟨b, etst, ego⟩ := PR.nx_inv ego
      refine ⟨g1, fun H' => (i + 1) + (m - 1) = ts.length ∧ ∃ acc av rest, rs = acc ++ rest ∧ lcGo tg tst elt (wipeP ρ vs) (ts.drop (i + 1)) = .ok rest ∧ acc.length ≤ i + 1 ∧ H' D = some (.lst av) ∧ Reps c.K c.w (D :: O) H' acc av ∧ Same H1 H',
        fun H' hN => ⟨m - 1, by omega, hN⟩, fun x H2 hy => ?_⟩
      obtain ⟨s3, rx⟩ := gy x H2 hy
      have re2 : PRel c.nox (D :: O) H2 (L2.wipe σ vs) (wipeP ρ vs) := by
        have r0 : PRel c (D :: O) H2 σ ρ := ⟨re.len, fun j t e => by
          obtain ⟨v, h1, h2⟩ := re.get j t e
          exact ⟨v, h1, ((h2.same s1).car (car.trans (car_same s3)) : _)⟩, fun a ha => same_ne s3 (trk a ha), fun p o e n => s3 _ _ (s2 _ _ (re.fr p o e n)), fun a ha => List.mem_cons_of_mem _ (re.ou a ha)⟩
        exact (r0.wipe vs).nox
      refine ⟨wipeP ρ vs, D :: O, ts[i], re2, rx, ?_⟩
      rw [etg]
      intro σ' re3 hle hag
      refine ⟨wipe_agree (by rw [hle, wipe_length]) hag hs, ρ1, D :: O, re3, ?_⟩
      rw [etst]
      intro H3 s4
      have sD3 : H3 D = some (.lst av) := s4 _ _ (s3 _ _ hDk)
      have s13 : Same H1 H3 := (hsm.trans s3).trans s4
      have hr3 : Reps c.K c.w (D :: O) H3 acc av := (hr.same s3).same s4
      cases b with
      | false =>
        rw [if_neg Bool.false_ne_true]
        exact ⟨by omega, acc, av, rest, ers, ego, by omega, sD3, hr3, s13⟩
      | true =>
        rw [if_pos rfl]
        have ego : ((elt ρ1).nx fun y => (lcGo tg tst elt (wipeP ρ vs) (ts.drop (i + 1))).bind fun r => .ok (y :: r)) = .ok rest := ego
        obtain ⟨y, eelt, ego⟩ := PR.nx_inv ego
        obtain ⟨r, e3, e4⟩ := PR.bind_inv ego
        cases e4
        refine ⟨ρ1, D :: O, re3.same s4, ?_⟩
        rw [eelt]
        intro z H4 s5 rz
        have sD4 : H4 D = some (.lst av) := s5 _ _ sD3
        have cu : Car (D :: O) H4 (D :: O) (upd H4 D (.lst (av ++ [z]))) := car_upd List.mem_cons_self
        refine ⟨av, sD4, ?_, by omega, acc ++ [y], av ++ [z], r, by rw [ers, List.append_assoc]; rfl, e3, by rw [List.length_append]; simp; omega, upd_same, ?_, fun p o e => ?_⟩
        · rw [← hr.len]; omega
        · exact Reps.append (Reps.car cu _ _ (hr3.same s5)) (Reps.cons (rz.car cu) Reps.nil)
        · rw [upd_ne (ne_of_none e hD)]
          exact s5 _ _ (s13 _ _ e)
  · refine .inl ⟨?_, ?_⟩
    · have : i = ts.length := by omega
      rw [this]; exact hstop
    · have : i = ts.length := by omega
      subst this
      rw [List.drop_length] at ego
      cases ego
      rw [List.append_nil] at ers
      subst ers
      exact po D Hk s2 (s1.free hD) ⟨av, hDk, hr⟩
theorem rd_lc {c : C} {it : PEv → PR (List T)} {vs is : List Nat} {tg : T → PEv → Option PEv} {tst : PEv → PR Bool} {elt : PEv → PR T} (hs : ∀ i ∈ is, i ∈ vs) {σ : Sg} {H : Hp} {Q : VK} (h : tN c (pLc it vs tg tst elt) σ H Q) :
    tLc (tIt c it) (tG c.nox is tg) (tTs c.nox tst) (tP c.nox elt) vs σ H Q := by
  obtain ⟨ρ, O, re, po⟩ := h
  unfold pLc at po
  refine ⟨ρ, O, re, ?_⟩
  cases e1 : it ρ with
  | bad => rw [e1] at po; exact po
  | ex k t => rw [e1] at po; exact po
  | ok ts =>
    rw [e1] at po
    intro J H1 s1 iok D hD
    have po : PoN c O H (if small ts then (lcGo tg tst elt (wipeP ρ vs) ts).bind fun rs => .ok (.lst rs) else .bad) Q := po
    by_cases hz : small ts = true
    rotate_left
    · rw [if_neg hz] at po; exact po.elim
    rw [if_pos hz] at po
    have hlen : ts.length ≤ sizeLine := small_ok hz
    cases e2 : lcGo tg tst elt (wipeP ρ vs) ts with
    | bad => rw [e2] at po; exact po.elim
    | ex k t =>
      exfalso
      have nev : ∀ us : List T, ∀ k t, lcGo tg tst elt (wipeP ρ vs) us ≠ .ex k t := by
        intro us
        induction us with
        | nil => intro k t z; cases z
        | cons u us ih =>
          intro k t z
          unfold lcGo at z
          split at z
          · cases z
          · rename_i ρ1 _
            cases q1 : tst ρ1 with
            | ok b =>
              rw [q1] at z
              cases b with
              | false => exact ih k t z
              | true =>
                have z : ((elt ρ1).nx fun y => (lcGo tg tst elt (wipeP ρ vs) us).bind fun r => .ok (y :: r)) = .ex k t := z
                cases q2 : elt ρ1 with
                | ok y =>
                  rw [q2] at z
                  cases q3 : lcGo tg tst elt (wipeP ρ vs) us with
                  | ok r => rw [PR.nx_ok, q3] at z; cases z
                  | ex k' t' => exact ih k' t' q3
                  | bad => rw [PR.nx_ok, q3] at z; cases z
                | ex k' t' => rw [q2] at z; cases z
                | bad => rw [q2] at z; cases z
            | ex k' t' => rw [q1] at z; cases z
            | bad => rw [q1] at z; cases z
      exact nev ts k t e2
    | ok rs =>
      rw [e2] at po
      have po : ∀ p H', Same H H' → H p = none → Own c.K c.w (p :: O) H' (.lst rs) p → Q (.ref p) H' := po
      exact lc_core' hs re s1 iok hlen e2 po hD
end TL

namespace TL
open PySem PySem.Spec L2
section
variable {X : Cx} {c : C} {tg iter elt : Expr} {ifs : List Expr} {scope : Scope} {own : List (Str × Nat)} {pos : Pos} {it : PEv → PR (List T)} {is : List Nat} {g : T → PEv → Option PEv} {tst : PEv → PR Bool} {fe : PEv → PR T}
def pYes : PEv → PR Bool := fun _ => .ok true
theorem ets_nil : PTs X [] (tTs c pYes) := ⟨fun pins s σ H Q I ⟨ρ, O, re, po⟩ => pts_nil.run pins s σ H Q I (po H (Same.refl H))⟩
theorem ets_one {e : Expr} (h : PT X e (tTs c tst)) : PTs X [e] (tTs c tst) := pts_one h
theorem ev_lc (hc : X.calm = true) (hN : X.N.Nodup) (hi : PI X tg iter (tIt c it)) (ok : BlkOk X.N X.env.scope scope own)
    (hg : ∀ (s : Shared) (H : Hp) (C : Addr) (cl : List (Str × Addr)) (fp : List Addr), PG (X.blk s H scope (compEnvC scope cl C X.env) fp) tg (tG c.nox is g))
    (ht : ∀ (s : Shared) (H : Hp) (C : Addr) (cl : List (Str × Addr)) (fp : List Addr), PTs (X.blk s H scope (compEnvC scope cl C X.env) fp) ifs (tTs c.nox tst))
    (he : ∀ (s : Shared) (H : Hp) (C : Addr) (cl : List (Str × Addr)) (fp : List Addr), PE (X.blk s H scope (compEnvC scope cl C X.env) fp) elt (tP c.nox fe))
    (hs : ∀ x, foldedSetIterable iter X.env x = pure x := by intro _; rfl) (his : ∀ i ∈ is, i ∈ own.map (·.2) := by decide) :
    PE X (.ListComp elt [⟨tg, iter, ifs, 0⟩] scope pos) (tN c (pLc it (own.map (·.2)) g tst fe)) := PEm (pe_lc hc hN hi ok hg ht he hs) fun _ _ _ h => rd_lc his h
end
end TL

set_option Elab.async false
set_option linter.all false
set_option maxRecDepth 100000
/-! TL6: slots that are one's own; steps; impure values. -/
namespace TL
open PySem PySem.Spec L2

/-- what is known of a frozen value: it stood when the def began; its lists are new down to a depth -/
inductive Gd where
  | old | new (d : Nat)
inductive Sl where
  | un | fz (t : T) | ow (t : T) | io (t : T) | gd (g : Gd) (t : T)
/-- the lists of t, down to depth d, are none of H0's -/
def NewT (H0 H : Hp) : Nat → T → V → Prop
  | 0, _, _ => True
  | d + 1, .lst ts, v => ∃ a vs, v = .ref a ∧ H0 a = none ∧ H a = some (.lst vs) ∧ ∀ (i : Nat) t x, ts[i]? = some t → vs[i]? = some x → NewT H0 H d t x ∧ ((∃ us, t = .lst us) → x ≠ .ref a)
  | _ + 1, _, _ => True
def Gr (c : C) (H : Hp) : Gd → T → V → Prop
  | .old, t, x => Rep c.K c.w c.OO c.H0 t x
  | .new d, t, x => NewT c.H0 H d t x
theorem NewT.car {K : PySem.W.Frag} {w : World} {O O' : List Addr} {H0 H H' : Hp} (ca : Car O H O' H') : ∀ (d : Nat) (t : T) (x : V), Rep K w O H t x → NewT H0 H d t x → NewT H0 H' d t x
  | 0, _, _, _, _ => trivial
  | d + 1, t, x, r, n => by
    cases t with
    | lst ts =>
      obtain ⟨a, vs, e, h0, ha, hi⟩ := n
      obtain ⟨a', vs', e', na, ha', rs⟩ := of_lst r
      rw [e] at e'; cases e'
      rw [ha] at ha'; cases ha'
      refine ⟨a, vs, e, h0, (ca _ _ ha na).1, fun i t x h1 h2 => ?_⟩
      obtain ⟨y, h3, h4⟩ := rs.get h1
      rw [h2] at h3; cases h3
      exact ⟨NewT.car ca d t x h4 (hi i t x h1 h2).1, (hi i t x h1 h2).2⟩
    | _ => trivial
theorem Gr.car {c : C} {O O' : List Addr} {H H' : Hp} (ca : Car O H O' H') {g : Gd} {t : T} {x : V} (r : Rep c.K c.w O H t x) (h : Gr c H g t x) : Gr c H' g t x := by
  cases g with
  | old => exact h
  | new d => exact NewT.car ca d t x r h
abbrev SE := List Sl
/-- p is one's own: it may be written -/
def Ow (σ : Sg) (ρ : SE) (p : Addr) : Prop := ∃ (i : Nat) (t : T), σ[i]? = some (some (.ref p)) ∧ (ρ[i]? = some (.ow t) ∨ ρ[i]? = some (.io t))
def SlotR (c : C) (O : List Addr) (H : Hp) (v : Option V) : Sl → Prop
  | .un => True
  | .fz t => ∃ x, v = some x ∧ Rep c.K c.w O H t x
  | .gd g t => ∃ x, v = some x ∧ Rep c.K c.w O H t x ∧ Gr c H g t x
  | .ow t => ∃ a, v = some (.ref a) ∧ a ∈ O ∧ c.H0 a = none ∧ Own c.K c.w O H t a
  | .io t => ∃ a, v = some (.ref a) ∧ a ∈ O ∧ c.g = some a ∧ Own c.K c.w O H t a
structure RE (c : C) (O : List Addr) (H : Hp) (σ : Sg) (ρ : SE) : Prop where
  len : σ.length = ρ.length
  slots : ∀ (i : Nat) s v, ρ[i]? = some s → σ[i]? = some v → SlotR c O H v s
  dist : ∀ (i j : Nat) p t u, σ[i]? = some (some (.ref p)) → σ[j]? = some (some (.ref p)) → (ρ[i]? = some (.ow t) ∨ ρ[i]? = some (.io t)) → (ρ[j]? = some (.ow u) ∨ ρ[j]? = some (.io u)) → i = j
  trk : ∀ a ∈ O, H a ≠ none
  frame : ∀ p o, c.H0 p = some o → c.g ≠ some p → H p = some o
  kept : ∀ p, c.H0 p ≠ none → H p ≠ none
  gtrk : ∀ p, c.g = some p → c.H0 p ≠ none
  outer : ∀ a ∈ c.OO, a ∈ O
  otrk : ∀ a ∈ c.OO, c.H0 a ≠ none
  onew : ∀ a ∈ O, a ∈ c.OO ∨ c.H0 a = none
structure Step (O : List Addr) (H : Hp) (σ : Sg) (ρ : SE) (O' : List Addr) (H' : Hp) (σ' : Sg) (ρ' : SE) : Prop where
  keep : ∀ p o, H p = some o → ¬ Ow σ ρ p → H' p = some o
  own : ∀ p, Ow σ' ρ' p → Ow σ ρ p ∨ H p = none
  sub : ∀ p ∈ O', p ∈ O ∨ H p = none
  hold : ∀ p ∈ O, ¬ Ow σ ρ p → p ∈ O'
  mono : ∀ p, H p ≠ none → H' p ≠ none
def strict (ρ : SE) : PEv := ρ.map fun s => match s with
  | .fz t => some t
  | .gd _ t => some t
  | _ => none
def view (ρ : SE) : PEv := ρ.map fun s => match s with
  | .un => none
  | .fz t => some t
  | .gd _ t => some t
  | .ow t => some t
  | .io t => some t

section
variable {c : C} {O O' O2 : List Addr} {H H' H2 : Hp} {σ σ' σ2 : Sg} {ρ ρ' ρ2 : SE}
theorem Step.refl : Step O H σ ρ O H σ ρ := ⟨fun _ _ e _ => e, fun _ h => .inl h, fun _ h => .inl h, fun _ h _ => h, fun _ h => h⟩
theorem Step.trans (a : Step O H σ ρ O' H' σ' ρ') (b : Step O' H' σ' ρ' O2 H2 σ2 ρ2) (tr : ∀ p ∈ O, H p ≠ none) : Step O H σ ρ O2 H2 σ2 ρ2 where
  keep := fun p o e n => b.keep p o (a.keep p o e n) fun z => by
    rcases a.own p z with z | z
    · exact n z
    · rw [e] at z; cases z
  own := fun p h => by
    rcases b.own p h with h | h
    · exact a.own p h
    · refine .inr ?_
      cases q : H p with
      | none => rfl
      | some o => exact absurd h (a.mono p (by rw [q]; exact fun z => nomatch z))
  sub := fun p h => by
    rcases b.sub p h with h | h
    · exact a.sub p h
    · refine .inr ?_
      cases q : H p with
      | none => rfl
      | some o => exact absurd h (a.mono p (by rw [q]; exact fun z => nomatch z))
  hold := fun p h n => b.hold p (a.hold p h n) fun z => by
    rcases a.own p z with z | z
    · exact n z
    · exact tr p h z
  mono := fun p h => b.mono p (a.mono p h)
theorem RE.own_in (r : RE c O H σ ρ) {p : Addr} (h : Ow σ ρ p) : p ∈ O := by
  obtain ⟨i, t, e, q | q⟩ := h
  · obtain ⟨a, e2, m, _⟩ := r.slots i _ _ q e
    cases e2; exact m
  · obtain ⟨a, e2, m, _⟩ := r.slots i _ _ q e
    cases e2; exact m
theorem RE.car (r : RE c O H σ ρ) (s : Step O H σ ρ O' H' σ' ρ') : Car O H O' H' := fun p o e n => by
  refine ⟨s.keep p o e fun z => n (r.own_in z), fun z => ?_⟩
  rcases s.sub p z with z | z
  · exact n z
  · rw [e] at z; cases z
theorem RE.strict (r : RE c O H σ ρ) : PRel c O H σ (strict ρ) where
  len := by rw [r.len]; simp [TL.strict]
  get := fun i t e => by
    unfold TL.strict at e
    rw [List.getElem?_map] at e
    cases q : ρ[i]? with
    | none => rw [q] at e; cases e
    | some s =>
      rw [q] at e
      have hi : i < σ.length := by rw [r.len]; exact (List.getElem?_eq_some_iff.mp q).1
      have z := r.slots i s _ q (List.getElem?_eq_getElem hi)
      cases s with
      | fz u => cases e; obtain ⟨x, e1, h⟩ := z; exact ⟨x, by rw [List.getElem?_eq_getElem hi, e1], h⟩
      | gd g u => cases e; obtain ⟨x, e1, h, _⟩ := z; exact ⟨x, by rw [List.getElem?_eq_getElem hi, e1], h⟩
      | un => cases e
      | ow u => cases e
      | io u => cases e
  trk := r.trk
  fr := r.frame
  ou := r.outer
theorem RE.view (r : RE c O H σ ρ) : PRel c.nox [] H σ (view ρ) where
  len := by rw [r.len]; simp [TL.view]
  get := fun i t e => by
    unfold TL.view at e
    rw [List.getElem?_map] at e
    cases q : ρ[i]? with
    | none => rw [q] at e; cases e
    | some s =>
      rw [q] at e
      have hi : i < σ.length := by rw [r.len]; exact (List.getElem?_eq_some_iff.mp q).1
      have z := r.slots i s _ q (List.getElem?_eq_getElem hi)
      have no : ∀ b ∈ ([] : List Addr), b ∈ O := fun b hb => by cases hb
      cases s with
      | fz u => cases e; obtain ⟨x, e1, h⟩ := z; exact ⟨x, by rw [List.getElem?_eq_getElem hi, e1], h.less no⟩
      | gd g u => cases e; obtain ⟨x, e1, h, _⟩ := z; exact ⟨x, by rw [List.getElem?_eq_getElem hi, e1], h.less no⟩
      | un => cases e
      | ow u => cases e; obtain ⟨x, e1, _, _, h⟩ := z; exact ⟨_, by rw [List.getElem?_eq_getElem hi, e1], (h.less no).rep (by simp)⟩
      | io u => cases e; obtain ⟨x, e1, _, _, h⟩ := z; exact ⟨_, by rw [List.getElem?_eq_getElem hi, e1], (h.less no).rep (by simp)⟩
  trk := fun a ha => by cases ha
  fr := r.frame
  ou := fun a ha => by cases ha
/-- the heap grows, the forbidden ones with it -/
theorem RE.move (r : RE c O H σ ρ) (hk : Same H H') (hs : ∀ a ∈ O, a ∈ O') (hn : ∀ a ∈ O', a ∈ O ∨ H a = none) (ht : ∀ a ∈ O', H' a ≠ none) : RE c O' H' σ ρ where
  len := r.len
  slots := fun i s v e1 e2 => by
    have z := r.slots i s v e1 e2
    have ca : Car O H O' H' := fun p o e n => ⟨hk _ _ e, fun y => by
      rcases hn p y with y | y
      · exact n y
      · rw [e] at y; cases y⟩
    cases s with
    | un => trivial
    | fz t => obtain ⟨x, e, h⟩ := z; exact ⟨x, e, h.car ca⟩
    | gd g t => obtain ⟨x, e, h, y⟩ := z; exact ⟨x, e, h.car ca, y.car ca h⟩
    | ow t => obtain ⟨x, e, m, z0, h⟩ := z; exact ⟨x, e, hs _ m, z0, h.car ca fun o q => hk _ _ q⟩
    | io t => obtain ⟨x, e, m, z0, h⟩ := z; exact ⟨x, e, hs _ m, z0, h.car ca fun o q => hk _ _ q⟩
  dist := r.dist
  trk := ht
  frame := fun p o e n => hk _ _ (r.frame p o e n)
  kept := fun p e => same_ne hk (r.kept p e)
  gtrk := r.gtrk
  outer := fun a ha => hs _ (r.outer a ha)
  otrk := r.otrk
  onew := fun a ha => (hn a ha).elim (r.onew a) fun z => .inr (by
    cases q : c.H0 a with
    | none => rfl
    | some o => exact absurd z (r.kept a (by rw [q]; exact fun z => nomatch z)))
theorem RE.same (r : RE c O H σ ρ) (hk : Same H H') : RE c O H' σ ρ := r.move hk (fun _ h => h) (fun _ h => .inl h) fun a ha => same_ne hk (r.trk a ha)
theorem Step.same (hk : Same H H') : Step O H σ ρ O H' σ ρ := ⟨fun p o e _ => hk _ _ e, fun _ h => .inl h, fun _ h => .inl h, fun _ h _ => h, fun p h => same_ne hk h⟩
/-- a new object, forbidden to all -/
theorem RE.new (r : RE c O H σ ρ) {p : Addr} (hk : Same H H') (hp : H p = none) (hp' : H' p ≠ none) : RE c (p :: O) H' σ ρ := r.move hk (fun _ h => List.mem_cons_of_mem _ h) (fun a ha => by
    rcases List.mem_cons.mp ha with z | z
    · exact .inr (by rw [z]; exact hp)
    · exact .inl z) fun a ha => by
    rcases List.mem_cons.mp ha with z | z
    · rw [z]; exact hp'
    · exact same_ne hk (r.trk a z)
theorem Step.new {p : Addr} (hk : Same H H') (hp : H p = none) : Step O H σ ρ (p :: O) H' σ ρ := ⟨fun p o e _ => hk _ _ e, fun _ h => .inl h, fun a ha => by
    rcases List.mem_cons.mp ha with z | z
    · exact .inr (by rw [z]; exact hp)
    · exact .inl z, fun _ h _ => List.mem_cons_of_mem _ h, fun p h => same_ne hk h⟩
theorem RE.h0none (r : RE c O H σ ρ) {p : Addr} (h : H p = none) : c.H0 p = none := by
  cases q : c.H0 p with
  | none => rfl
  | some o => exact absurd h (r.kept p (by rw [q]; exact fun z => nomatch z))
theorem RE.notOw (r : RE c O H σ ρ) {p : Addr} (h : H p = none) : ¬ Ow σ ρ p := fun z => r.trk p (r.own_in z) h
/-- an address is no longer forbidden -/
theorem RE.drop (r : RE c O H σ ρ) {p : Addr} (n : ¬ Ow σ ρ p) (h0 : c.H0 p = none) : RE c (O.filter fun a => decide (a ≠ p)) H σ ρ where
  len := r.len
  slots := fun i s v e1 e2 => by
    have z := r.slots i s v e1 e2
    have le : ∀ a ∈ O.filter (fun a => decide (a ≠ p)), a ∈ O := fun a ha => (List.mem_filter.mp ha).1
    cases s with
    | un => trivial
    | fz t => obtain ⟨x, e, h⟩ := z; exact ⟨x, e, h.less le⟩
    | gd g t => obtain ⟨x, e, h, y⟩ := z; exact ⟨x, e, h.less le, y⟩
    | ow t =>
      obtain ⟨x, e, m, z0, h⟩ := z
      exact ⟨x, e, List.mem_filter.mpr ⟨m, decide_eq_true fun q => n (q ▸ ⟨i, t, by rw [e2, e], .inl e1⟩)⟩, z0, h.less le⟩
    | io t =>
      obtain ⟨x, e, m, z0, h⟩ := z
      exact ⟨x, e, List.mem_filter.mpr ⟨m, decide_eq_true fun q => n (q ▸ ⟨i, t, by rw [e2, e], .inr e1⟩)⟩, z0, h.less le⟩
  dist := r.dist
  trk := fun a ha => r.trk a (List.mem_filter.mp ha).1
  frame := r.frame
  kept := r.kept
  gtrk := r.gtrk
  outer := fun a ha => List.mem_filter.mpr ⟨r.outer a ha, decide_eq_true fun q => r.otrk a ha (by rw [q]; exact h0)⟩
  otrk := r.otrk
  onew := fun a ha => r.onew a (List.mem_filter.mp ha).1
theorem Step.drop {p : Addr} (h : Step O H σ ρ O' H' σ' ρ') (n : p ∉ O) : Step O H σ ρ (O'.filter fun a => decide (a ≠ p)) H' σ' ρ' :=
  ⟨h.keep, h.own, fun a ha => h.sub a (List.mem_filter.mp ha).1, fun a ha na => List.mem_filter.mpr ⟨h.hold a ha na, decide_eq_true fun q => n (q ▸ ha)⟩, h.mono⟩
/-- a slot is overwritten by something that is not one's own -/
theorem RE.put (r : RE c O H σ ρ) {i : Nat} {s : Sl} {x : Option V} (hs : SlotR c O H x s) (no : (∀ t, s ≠ .ow t) ∧ ∀ t, s ≠ .io t) : RE c O H (σ.set i x) (ρ.set i s) where
  len := by rw [List.length_set, List.length_set]; exact r.len
  slots := fun j u v e1 e2 => by
    by_cases h : i = j
    · subst h
      by_cases hi : i < ρ.length
      · rw [List.getElem?_set_self hi] at e1
        rw [List.getElem?_set_self (by rw [r.len]; exact hi)] at e2
        cases e1; cases e2; exact hs
      · rw [List.getElem?_eq_none (by rw [List.length_set]; omega)] at e1; cases e1
    · rw [List.getElem?_set_ne h] at e1 e2
      exact r.slots j u v e1 e2
  dist := fun a b p t u e1 e2 e3 e4 => by
    have nr : ∀ (z : Nat) t, (ρ.set i s)[z]? = some (.ow t) ∨ (ρ.set i s)[z]? = some (.io t) → z ≠ i := fun z t q y => by
      subst y
      by_cases hi : z < ρ.length
      · rw [List.getElem?_set_self hi] at q
        rcases q with q | q
        · exact no.1 t (Option.some.inj q)
        · exact no.2 t (Option.some.inj q)
      · rw [List.getElem?_eq_none (by rw [List.length_set]; omega)] at q
        rcases q with q | q <;> cases q
    have na := nr a t e3
    have nb := nr b u e4
    rw [List.getElem?_set_ne na.symm] at e1 e3
    rw [List.getElem?_set_ne nb.symm] at e2 e4
    exact r.dist a b p t u e1 e2 e3 e4
  trk := r.trk
  frame := r.frame
  kept := r.kept
  gtrk := r.gtrk
  outer := r.outer
  otrk := r.otrk
  onew := r.onew
theorem ow_put {i : Nat} {s : Sl} {x : Option V} (no : (∀ t, s ≠ .ow t) ∧ ∀ t, s ≠ .io t) {p : Addr} (h : Ow (σ.set i x) (ρ.set i s) p) (hl : σ.length = ρ.length) : Ow σ ρ p := by
  obtain ⟨j, t, e1, e2⟩ := h
  by_cases hj : i = j
  · subst hj
    exfalso
    by_cases hi : i < ρ.length
    · rw [List.getElem?_set_self hi] at e2
      rcases e2 with e2 | e2
      · exact no.1 t (Option.some.inj e2)
      · exact no.2 t (Option.some.inj e2)
    · rw [List.getElem?_eq_none (by rw [List.length_set]; omega)] at e2
      rcases e2 with e2 | e2 <;> cases e2
  · rw [List.getElem?_set_ne hj] at e1 e2
    exact ⟨j, t, e1, e2⟩
/-- a slot takes a new object of one's own -/
theorem RE.putOw (r : RE c O H σ ρ) {i : Nat} {t : T} {p : Addr} (hp : p ∈ O) (n : ¬ Ow σ ρ p) (h0 : c.H0 p = none) (o : Own c.K c.w O H t p) : RE c O H (σ.set i (some (.ref p))) (ρ.set i (.ow t)) where
  len := by rw [List.length_set, List.length_set]; exact r.len
  slots := fun j u v e1 e2 => by
    by_cases h : i = j
    · subst h
      by_cases hi : i < ρ.length
      · rw [List.getElem?_set_self hi] at e1
        rw [List.getElem?_set_self (by rw [r.len]; exact hi)] at e2
        cases e1; cases e2; exact ⟨p, rfl, hp, h0, o⟩
      · rw [List.getElem?_eq_none (by rw [List.length_set]; omega)] at e1; cases e1
    · rw [List.getElem?_set_ne h] at e1 e2
      exact r.slots j u v e1 e2
  dist := fun a b q t u e1 e2 e3 e4 => by
    by_cases ha : i = a
    · by_cases hb : i = b
      · omega
      · exfalso
        rw [List.getElem?_set_ne hb] at e2 e4
        rw [← ha] at e1 e3
        by_cases hi : i < ρ.length
        · rw [List.getElem?_set_self (by rw [r.len]; exact hi)] at e1
          cases e1
          exact n ⟨b, u, e2, e4⟩
        · rw [List.getElem?_eq_none (by rw [List.length_set]; omega)] at e3
          rcases e3 with e3 | e3 <;> cases e3
    · by_cases hb : i = b
      · exfalso
        rw [List.getElem?_set_ne ha] at e1 e3
        rw [← hb] at e2 e4
        by_cases hi : i < ρ.length
        · rw [List.getElem?_set_self (by rw [r.len]; exact hi)] at e2
          cases e2
          exact n ⟨a, t, e1, e3⟩
        · rw [List.getElem?_eq_none (by rw [List.length_set]; omega)] at e4
          rcases e4 with e4 | e4 <;> cases e4
      · rw [List.getElem?_set_ne ha] at e1 e3
        rw [List.getElem?_set_ne hb] at e2 e4
        exact r.dist a b q t u e1 e2 e3 e4
  trk := r.trk
  frame := r.frame
  kept := r.kept
  gtrk := r.gtrk
  outer := r.outer
  otrk := r.otrk
  onew := r.onew
theorem ow_putOw {i : Nat} {t : T} {p q : Addr} (h : Ow (σ.set i (some (.ref p))) (ρ.set i (.ow t)) q) : Ow σ ρ q ∨ q = p := by
  obtain ⟨j, u, e1, e2⟩ := h
  by_cases hj : i = j
  · subst hj
    by_cases hi : i < σ.length
    · rw [List.getElem?_set_self hi] at e1
      cases e1; exact .inr rfl
    · rw [List.getElem?_eq_none (by rw [List.length_set]; omega)] at e1; cases e1
  · rw [List.getElem?_set_ne hj] at e1 e2
    exact .inl ⟨j, u, e1, e2⟩
end
end TL

set_option Elab.async false
set_option linter.all false
set_option maxRecDepth 100000
/-! TL7: values in a frame, statements. -/
namespace TL
open PySem PySem.Spec L2

inductive R (α : Type) where
  | ok (a : α) (ρ : SE) | ex (k : Str) (t : T) | bad
def R.bind {α β : Type} (r : R α) (f : α → SE → R β) : R β := match r with
  | .ok a ρ => f a ρ
  | .ex k t => .ex k t
  | .bad => .bad
@[simp] theorem R.bind_ok {α β : Type} (a : α) (ρ : SE) (f : α → SE → R β) : (R.ok a ρ).bind f = f a ρ := rfl
@[simp] theorem R.bind_ex {α β : Type} (k : Str) (t : T) (f : α → SE → R β) : (R.ex k t).bind f = .ex k t := rfl
@[simp] theorem R.bind_bad {α β : Type} (f : α → SE → R β) : (R.bad).bind f = .bad := rfl
def R.of {α : Type} (o : Option α) (ρ : SE) : R α := match o with
  | some a => .ok a ρ
  | none => .bad
@[simp] theorem R.of_some {α : Type} (a : α) (ρ : SE) : R.of (some a) ρ = .ok a ρ := rfl
@[simp] theorem R.of_none {α : Type} (ρ : SE) : R.of (none : Option α) ρ = .bad := rfl

/-- a value: frozen, or (k) a new object of one's own -/
def Val (c : C) (k : Bool) (O : List Addr) (H : Hp) (σ : Sg) (ρ : SE) (t : T) (x : V) : Prop := match k with
  | false => Rep c.K c.w O H t x
  | true => ∃ p, x = .ref p ∧ p ∈ O ∧ ¬ Ow σ ρ p ∧ c.H0 p = none ∧ Own c.K c.w O H t p
def PoE (c : C) (k : Bool) (O : List Addr) (H : Hp) (σ : Sg) (ρ : SE) (r : R T) (Q : VK) : Prop := match r with
  | .ok t ρ' => ∀ x H' O', RE c O' H' σ ρ' → Step O H σ ρ O' H' σ ρ' → Val c k O' H' σ ρ' t x → (k = true → ∀ p, x = .ref p → Ow σ ρ p ∨ H p = none) → Q x H'
  | .ex n t => c.WT n t
  | .bad => False
def PoET (c : C) (O : List Addr) (H : Hp) (σ : Sg) (ρ : SE) (r : R Bool) (Q : Bool → Hp → Prop) : Prop := match r with
  | .ok b ρ' => ∀ H' O', RE c O' H' σ ρ' → Step O H σ ρ O' H' σ ρ' → Q b H'
  | .ex n t => c.WT n t
  | .bad => False
def PoEA (c : C) (O : List Addr) (H : Hp) (σ : Sg) (ρ : SE) (r : R (List T)) (Q : List V → Hp → Prop) : Prop := match r with
  | .ok ts ρ' => ∀ xs H' O', RE c O' H' σ ρ' → Step O H σ ρ O' H' σ ρ' → Reps c.K c.w O' H' ts xs → Q xs H'
  | .ex n t => c.WT n t
  | .bad => False
def tE (c : C) (k : Bool) (f : SE → R T) : TE := fun σ H Q => ∃ ρ O, RE c O H σ ρ ∧ PoE c k O H σ ρ (f ρ) Q
def tET (c : C) (f : SE → R Bool) : TT := fun σ H Q => ∃ ρ O, RE c O H σ ρ ∧ PoET c O H σ ρ (f ρ) Q
def tEA (c : C) (f : SE → R (List T)) : TA := fun σ H Q => ∃ ρ O, RE c O H σ ρ ∧ PoEA c O H σ ρ (f ρ) Q
structure IsR (c : C) {β : Type} (P : R β → Prop) : Prop where
  ex : ∀ k t, P (.ex k t) → c.WT k t
  bad : ¬ P .bad
section
variable {c : C} {k : Bool} {O O' O2 : List Addr} {H H' H2 : Hp} {σ σ' σ2 : Sg} {ρ ρ' ρ2 : SE}
theorem isE {Q : VK} : IsR c (PoE c k O H σ ρ · Q) := ⟨fun _ _ h => h, fun h => h⟩
theorem isET {Q : Bool → Hp → Prop} : IsR c (PoET c O H σ ρ · Q) := ⟨fun _ _ h => h, fun h => h⟩
theorem isEA {Q : List V → Hp → Prop} : IsR c (PoEA c O H σ ρ · Q) := ⟨fun _ _ h => h, fun h => h⟩
theorem PoE.bind {β : Type} {P : R β → Prop} (ip : IsR c P) {r : R T} {f : T → SE → R β} {Q : VK} (h : P (r.bind f))
    (q : ∀ t ρ1 x H1 O1, RE c O1 H1 σ ρ1 → Step O H σ ρ O1 H1 σ ρ1 → Val c k O1 H1 σ ρ1 t x → (k = true → ∀ p, x = .ref p → Ow σ ρ p ∨ H p = none) → P (f t ρ1) → Q x H1) : PoE c k O H σ ρ r Q := by
  cases r with
  | ok t ρ1 => exact fun x H1 O1 re s b fr => q t ρ1 x H1 O1 re s b fr h
  | ex n t => exact ip.ex _ _ h
  | bad => exact ip.bad h
theorem PoET.bind {β : Type} {P : R β → Prop} (ip : IsR c P) {r : R Bool} {f : Bool → SE → R β} {Q : Bool → Hp → Prop} (h : P (r.bind f))
    (q : ∀ t ρ1 H1 O1, RE c O1 H1 σ ρ1 → Step O H σ ρ O1 H1 σ ρ1 → P (f t ρ1) → Q t H1) : PoET c O H σ ρ r Q := by
  cases r with
  | ok t ρ1 => exact fun H1 O1 re s => q t ρ1 H1 O1 re s h
  | ex n t => exact ip.ex _ _ h
  | bad => exact ip.bad h
theorem PoEA.bind {β : Type} {P : R β → Prop} (ip : IsR c P) {r : R (List T)} {f : List T → SE → R β} {Q : List V → Hp → Prop} (h : P (r.bind f))
    (q : ∀ t ρ1 x H1 O1, RE c O1 H1 σ ρ1 → Step O H σ ρ O1 H1 σ ρ1 → Reps c.K c.w O1 H1 t x → P (f t ρ1) → Q x H1) : PoEA c O H σ ρ r Q := by
  cases r with
  | ok t ρ1 => exact fun x H1 O1 re s b => q t ρ1 x H1 O1 re s b h
  | ex n t => exact ip.ex _ _ h
  | bad => exact ip.bad h
theorem Step.back {p : Addr} (s : Step O H σ ρ O' H' σ' ρ') (h : Ow σ' ρ' p ∨ H' p = none) : Ow σ ρ p ∨ H p = none := by
  rcases h with h | h
  · exact s.own p h
  · refine .inr ?_
    cases q : H p with
    | none => rfl
    | some o => exact absurd h (s.mono p (by rw [q]; exact fun z => nomatch z))
theorem PoE.from (tr : ∀ p ∈ O, H p ≠ none) (s : Step O H σ ρ O' H' σ ρ') {r : R T} {Q : VK} (h : PoE c k O H σ ρ r Q) : PoE c k O' H' σ ρ' r Q := by
  cases r with
  | ok t ρ1 => exact fun x H1 O1 re s1 b fr => h x H1 O1 re (s.trans s1 tr) b fun hk p e => s.back (fr hk p e)
  | ex n t => exact h
  | bad => exact h
theorem PoET.from (tr : ∀ p ∈ O, H p ≠ none) (s : Step O H σ ρ O' H' σ ρ') {r : R Bool} {Q : Bool → Hp → Prop} (h : PoET c O H σ ρ r Q) : PoET c O' H' σ ρ' r Q := by
  cases r with
  | ok t ρ1 => exact fun H1 O1 re s1 => h H1 O1 re (s.trans s1 tr)
  | ex n t => exact h
  | bad => exact h
theorem PoEA.from (tr : ∀ p ∈ O, H p ≠ none) (s : Step O H σ ρ O' H' σ ρ') {r : R (List T)} {Q : List V → Hp → Prop} (h : PoEA c O H σ ρ r Q) : PoEA c O' H' σ ρ' r Q := by
  cases r with
  | ok t ρ1 => exact fun x H1 O1 re s1 b => h x H1 O1 re (s.trans s1 tr) b
  | ex n t => exact h
  | bad => exact h
theorem Val.step {t : T} {x : V} (r : RE c O H σ ρ) (s : Step O H σ ρ O' H' σ' ρ') (v : Val c k O H σ ρ t x) : Val c k O' H' σ' ρ' t x := by
  cases k with
  | false => exact Rep.car (r.car s) t x v
  | true =>
    obtain ⟨p, e, hp, n, h0, o⟩ := v
    refine ⟨p, e, s.hold p hp n, fun z => ?_, h0, o.car (r.car s) fun o' q => s.keep _ _ q n⟩
    rcases s.own p z with z | z
    · exact n z
    · exact r.trk p hp z
theorem Reps.stepE {t : List T} {x : List V} (r : RE c O H σ ρ) (s : Step O H σ ρ O' H' σ' ρ') (v : Reps c.K c.w O H t x) : Reps c.K c.w O' H' t x := Reps.car (r.car s) t x v
/-- no longer one's own -/
theorem Val.freeze {t : T} {x : V} (r : RE c O H σ ρ) (v : Val c true O H σ ρ t x) : ∃ O', RE c O' H σ ρ ∧ Rep c.K c.w O' H t x ∧ ∀ O1 H1 ρ1, Step O1 H1 σ ρ1 O H σ ρ → (∀ p ∈ O1, H1 p ≠ none) → (∀ p, x = .ref p → p ∉ O1) → Step O1 H1 σ ρ1 O' H σ ρ := by
  obtain ⟨p, e, hp, n, h0, o⟩ := v
  refine ⟨_, r.drop n h0, ?_, fun O1 H1 ρ1 s tr no => s.drop (no p e)⟩
  rw [e]
  exact (o.less fun b hb => (List.mem_filter.mp hb).1).rep fun z => of_decide_eq_true (List.mem_filter.mp z).2 rfl
end

/-! ### from pure values -/
def PR.to {α : Type} (r : PR α) (ρ : SE) : R α := match r with
  | .ok a => .ok a ρ
  | .ex k t => .ex k t
  | .bad => .bad
@[simp] theorem PR.to_ok {α : Type} (a : α) (ρ : SE) : (PR.ok a).to ρ = .ok a ρ := rfl
@[simp] theorem PR.to_ex {α : Type} (k : Str) (t : T) (ρ : SE) : (PR.ex k t : PR α).to ρ = .ex k t := rfl
@[simp] theorem PR.to_bad {α : Type} (ρ : SE) : (PR.bad : PR α).to ρ = .bad := rfl
def liftS {α : Type} (f : PEv → PR α) : SE → R α := fun ρ => (f (strict ρ)).to ρ
def liftV (f : PEv → PR T) : SE → R T := fun ρ => match f (view ρ) with
  | .ok t => if t.isFlat then .ok t ρ else .bad
  | _ => .bad
def liftVT (f : PEv → PR Bool) : SE → R Bool := fun ρ => match f (view ρ) with
  | .ok a => .ok a ρ
  | _ => .bad
def liftVN (f : PEv → PR T) : SE → R T := fun ρ => match f (view ρ) with
  | .ok (.lst ts) => if ts.all T.isFlat then .ok (.lst ts) ρ else .bad
  | _ => .bad
section
variable {X : Cx} {c : C} {e : Expr} {f : PEv → PR T} {ft : PEv → PR Bool} {σ : Sg} {H : Hp} {Q : VK}
theorem rd_S (h : tE c false (liftS f) σ H Q) : tP c f σ H Q := by
  obtain ⟨ρ, O, re, po⟩ := h
  refine ⟨strict ρ, O, re.strict, ?_⟩
  unfold liftS at po
  cases q : f (strict ρ) with
  | ok t => rw [q] at po; exact fun x H' s b => po x H' O (re.same s) (Step.same s) b fun z => nomatch z
  | ex k t => rw [q] at po; exact po
  | bad => rw [q] at po; exact po
theorem Rep.flat_any {K w O O' H H'} {t : T} {v : V} (f : t.isFlat = true) (h : Rep K w O H t v) : Rep K w O' H' t v := by
  cases t with
  | non => rw [of_non h]; exact rep_non
  | bl b => rw [of_bl h]; exact rep_bl
  | int b => rw [of_int h]; exact rep_int
  | str b => rw [of_str h]; exact rep_str
  | _ => cases f
theorem Reps.flat_any {K w O O' H H'} : ∀ {ts : List T} {vs : List V}, ts.all T.isFlat = true → Reps K w O H ts vs → Reps K w O' H' ts vs
  | [], vs, f, h => by unfold Reps at h ⊢; exact h
  | t :: ts, vs, f, h => by
    unfold Reps at h
    obtain ⟨v, r, e, a, b⟩ := h
    subst e
    rw [List.all_cons, Bool.and_eq_true] at f
    exact Reps.cons (a.flat_any f.1) (Reps.flat_any f.2 b)
theorem rd_V (h : tE c false (liftV f) σ H Q) : tP c.nox f σ H Q := by
  obtain ⟨ρ, O, re, po⟩ := h
  refine ⟨view ρ, [], re.view, ?_⟩
  unfold liftV at po
  cases q : f (view ρ) with
  | ok t =>
    rw [q] at po
    intro x H' s b
    by_cases hf : t.isFlat = true
    · simp only [hf, if_true] at po
      exact po x H' O (re.same s) (Step.same s) (b.flat_any hf) fun z => nomatch z
    · simp only [hf] at po; exact po.elim
  | ex k t => rw [q] at po; exact po.elim
  | bad => rw [q] at po; exact po
theorem rd_SN (h : tE c true (liftS f) σ H Q) : tN c f σ H Q := by
  obtain ⟨ρ, O, re, po⟩ := h
  refine ⟨strict ρ, O, re.strict, ?_⟩
  unfold liftS at po
  cases q : f (strict ρ) with
  | ok t =>
    rw [q] at po
    exact fun p H' s n o => po _ H' (p :: O) (re.new s n o.some) (Step.new s n) ⟨p, rfl, List.mem_cons_self, re.notOw n, re.h0none n, o⟩ fun _ p' e => by cases e; exact .inr n
  | ex k t => rw [q] at po; exact po
  | bad => rw [q] at po; exact po
theorem rd_VN (h : tE c true (liftVN f) σ H Q) : tN c.nox f σ H Q := by
  obtain ⟨ρ, O, re, po⟩ := h
  refine ⟨view ρ, [], re.view, ?_⟩
  unfold liftVN at po
  cases q : f (view ρ) with
  | ok t =>
    rw [q] at po
    cases t with
    | lst ts =>
      intro p H' s n o
      by_cases hf : ts.all T.isFlat = true
      · simp only [hf, if_true] at po
        obtain ⟨vs, e, r⟩ := o
        have o' : Own c.K c.w (p :: O) H' (.lst ts) p := ⟨vs, e, Reps.flat_any hf r⟩
        exact po _ H' (p :: O) (re.new s n o'.some) (Step.new s n) ⟨p, rfl, List.mem_cons_self, re.notOw n, re.h0none n, o'⟩ fun _ p' e => by cases e; exact .inr n
      · simp only [hf] at po; exact po.elim
    | _ => exact po.elim
  | ex k t => rw [q] at po; exact po.elim
  | bad => rw [q] at po; exact po
theorem rd_T {Q : Bool → Hp → Prop} (h : tET c (liftS ft) σ H Q) : tTs c ft σ H Q := by
  obtain ⟨ρ, O, re, po⟩ := h
  refine ⟨strict ρ, O, re.strict, ?_⟩
  unfold liftS at po
  cases q : ft (strict ρ) with
  | ok t => rw [q] at po; exact fun H' s => po H' O (re.same s) (Step.same s)
  | ex k t => rw [q] at po; exact po
  | bad => rw [q] at po; exact po
theorem rd_VT {Q : Bool → Hp → Prop} (h : tET c (liftVT ft) σ H Q) : tTs c.nox ft σ H Q := by
  obtain ⟨ρ, O, re, po⟩ := h
  refine ⟨view ρ, [], re.view, ?_⟩
  unfold liftVT at po
  cases q : ft (view ρ) with
  | ok t => rw [q] at po; exact fun H' s => po H' O (re.same s) (Step.same s)
  | ex k t => rw [q] at po; exact po.elim
  | bad => rw [q] at po; exact po
theorem ee_S (h : PE X e (tP c f)) : PE X e (tE c false (liftS f)) := PEm h fun _ _ _ => rd_S
theorem ee_V (h : PE X e (tP c.nox f)) : PE X e (tE c false (liftV f)) := PEm h fun _ _ _ => rd_V
theorem ee_N (h : PE X e (tN c f)) : PE X e (tE c true (liftS f)) := PEm h fun _ _ _ => rd_SN
theorem ee_VN (h : PE X e (tN c.nox f)) : PE X e (tE c true (liftVN f)) := PEm h fun _ _ _ => rd_VN
theorem eet_S (h : PT X e (tTs c ft)) : PT X e (tET c (liftS ft)) := PTm h fun _ _ _ => rd_T
theorem eet_V (h : PT X e (tTs c.nox ft)) : PT X e (tET c (liftVT ft)) := PTm h fun _ _ _ => rd_VT

theorem no_un : (∀ t, Sl.un ≠ .ow t) ∧ ∀ t, Sl.un ≠ .io t := And.intro (fun _ z => by cases z) (fun _ z => by cases z)
theorem no_fz {u : T} : (∀ t, Sl.fz u ≠ .ow t) ∧ ∀ t, Sl.fz u ≠ .io t := And.intro (fun _ z => by cases z) (fun _ z => by cases z)
/-! ### a name whose object leaves -/
/-- the slot is given up -/
def mvS (j : Nat) : SE → R T := fun ρ => match ρ[j]? with
  | some (.ow t) => .ok t (ρ.set j .un)
  | _ => .bad
theorem slot_some {c : C} {O : List Addr} {ρ : SE} {j : Nat} {s : Sl} (re : RE c O H σ ρ) (e : ρ[j]? = some s) : ∃ v, σ[j]? = some v := by
  have hi : j < σ.length := by rw [re.len]; exact (List.getElem?_eq_some_iff.mp e).1
  exact ⟨_, List.getElem?_eq_getElem hi⟩
theorem ee_mv {j : Nat} (h : PE X e (tVar j)) : PE X e (tE c true (mvS j)) := PEm h fun σ H Q ⟨ρ, O, re, po⟩ => by
  unfold mvS at po
  split at po
  · rename_i t q
    obtain ⟨v, hv⟩ := slot_some re q
    obtain ⟨a, e1, m, h0, o⟩ := re.slots j _ v q hv
    subst e1
    have no := no_un
    have hσ : σ.set j (some (.ref a)) = σ := by
      apply List.ext_getElem?
      intro i
      by_cases hi : j = i
      · subst hi; rw [hv]; have : j < σ.length := (List.getElem?_eq_some_iff.mp hv).1; rw [List.getElem?_set_self this]
      · rw [List.getElem?_set_ne hi]
    have re' : RE c O H σ (ρ.set j .un) := by
      have z := re.put (i := j) (s := .un) (x := some (.ref a)) True.intro no
      rw [hσ] at z; exact z
    have sub : ∀ p, Ow σ (ρ.set j .un) p → Ow σ ρ p := fun p z => by
      rw [← hσ] at z
      exact ow_put no z re.len
    have nOw : ¬ Ow σ (ρ.set j .un) a := fun ⟨i, u, e2, e3⟩ => by
      have ne : i ≠ j := fun z => by
        subst z
        have : i < ρ.length := (List.getElem?_eq_some_iff.mp q).1
        rw [List.getElem?_set_self this] at e3
        rcases e3 with e3 | e3 <;> cases e3
      rw [List.getElem?_set_ne ne.symm] at e3
      exact ne (re.dist i j a u t e2 hv e3 (.inl q))
    refine ⟨.ref a, hv, po _ H O re' ⟨fun _ _ e _ => e, fun p z => .inl (sub p z), fun _ z => .inl z, fun _ z _ => z, fun _ z => z⟩ ⟨a, rfl, m, nOw, h0, o⟩ fun _ p' e => by cases e; exact .inl ⟨j, t, hv, .inl q⟩⟩
  · exact po.elim
end
end TL

set_option Elab.async false
set_option linter.all false
set_option maxRecDepth 100000
/-! TL8: statements. -/
namespace TL
open PySem PySem.Spec L2

inductive SO where
  | nx (ρ : SE) | rt (k : Bool) (t : T) (ρ : SE) | bk (ρ : SE) | ct (ρ : SE) | ex (k : Str) (t : T) | bad
def R.thn {α : Type} (r : R α) (f : α → SE → SO) : SO := match r with
  | .ok a ρ => f a ρ
  | .ex k t => .ex k t
  | .bad => .bad
@[simp] theorem R.thn_ok {α : Type} (a : α) (ρ : SE) (f : α → SE → SO) : (R.ok a ρ).thn f = f a ρ := rfl
@[simp] theorem R.thn_ex {α : Type} (k : Str) (t : T) (f : α → SE → SO) : (R.ex k t).thn f = .ex k t := rfl
@[simp] theorem R.thn_bad {α : Type} (f : α → SE → SO) : (R.bad).thn f = .bad := rfl
def SO.thn (r : SO) (f : SE → SO) : SO := match r with
  | .nx ρ => f ρ
  | r => r
@[simp] theorem SO.thn_nx (ρ : SE) (f : SE → SO) : (SO.nx ρ).thn f = f ρ := rfl
@[simp] theorem SO.thn_rt (k t) (ρ : SE) (f : SE → SO) : (SO.rt k t ρ).thn f = .rt k t ρ := rfl
@[simp] theorem SO.thn_bk (ρ : SE) (f : SE → SO) : (SO.bk ρ).thn f = .bk ρ := rfl
@[simp] theorem SO.thn_ct (ρ : SE) (f : SE → SO) : (SO.ct ρ).thn f = .ct ρ := rfl
@[simp] theorem SO.thn_ex (k t) (f : SE → SO) : (SO.ex k t).thn f = .ex k t := rfl
@[simp] theorem SO.thn_bad (f : SE → SO) : (SO.bad).thn f = .bad := rfl
def PoS (c : C) (O : List Addr) (H : Hp) (σ : Sg) (ρ : SE) (r : SO) (D : Ends) : Prop := match r with
  | .nx ρ' => ∀ σ' H' O', RE c O' H' σ' ρ' → Step O H σ ρ O' H' σ' ρ' → D.nx σ' H'
  | .bk ρ' => ∀ σ' H' O', RE c O' H' σ' ρ' → Step O H σ ρ O' H' σ' ρ' → D.bk σ' H'
  | .ct ρ' => ∀ σ' H' O', RE c O' H' σ' ρ' → Step O H σ ρ O' H' σ' ρ' → D.ct σ' H'
  | .rt k t ρ' => ∀ x σ' H' O', RE c O' H' σ' ρ' → Step O H σ ρ O' H' σ' ρ' → Val c k O' H' σ' ρ' t x → D.rt x H'
  | .ex n t => c.WT n t
  | .bad => False
def tS (c : C) (g : SE → SO) : TS := fun D σ H => ∃ ρ O, RE c O H σ ρ ∧ PoS c O H σ ρ (g ρ) D
theorem PSm {X : Cx} {e : Stmt} {t t' : TS} (h : PS X e t) (k : ∀ D σ H, t' D σ H → t D σ H) : PS X e t' := ⟨fun pins s σ H D I q => h.run pins s σ H D I (k D σ H q)⟩
theorem PSsm {X : Cx} {e : List Stmt} {t t' : TS} (h : PSs X e t) (k : ∀ D σ H, t' D σ H → t D σ H) : PSs X e t' := ⟨fun pins s σ H D I q => h.run pins s σ H D I (k D σ H q)⟩
section
variable {X : Cx} {c : C} {k : Bool} {O O' : List Addr} {H H' : Hp} {σ σ' : Sg} {ρ ρ' : SE} {D : Ends} {st : Stmt} {rest : List Stmt} {g g1 g2 : SE → SO} {f f1 f2 : SE → R T}
theorem PoS.from {r : SO} (tr : ∀ p ∈ O, H p ≠ none) (s : Step O H σ ρ O' H' σ' ρ') (h : PoS c O H σ ρ r D) : PoS c O' H' σ' ρ' r D := by
  cases r with
  | nx ρ1 => exact fun σ1 H1 O1 re s1 => h σ1 H1 O1 re (s.trans s1 tr)
  | bk ρ1 => exact fun σ1 H1 O1 re s1 => h σ1 H1 O1 re (s.trans s1 tr)
  | ct ρ1 => exact fun σ1 H1 O1 re s1 => h σ1 H1 O1 re (s.trans s1 tr)
  | rt k t ρ1 => exact fun x σ1 H1 O1 re s1 v => h x σ1 H1 O1 re (s.trans s1 tr) v
  | ex n t => exact h
  | bad => exact h
theorem PoE.thn {r : R T} {q : T → SE → SO} {Q : VK} (h : PoS c O H σ ρ (r.thn q) D)
    (z : ∀ t ρ1 x H1 O1, RE c O1 H1 σ ρ1 → Step O H σ ρ O1 H1 σ ρ1 → Val c k O1 H1 σ ρ1 t x → (k = true → ∀ p, x = .ref p → Ow σ ρ p ∨ H p = none) → PoS c O H σ ρ (q t ρ1) D → Q x H1) : PoE c k O H σ ρ r Q := by
  cases r with
  | ok t ρ1 => exact fun x H1 O1 re s v fr => z t ρ1 x H1 O1 re s v fr h
  | ex n t => exact h
  | bad => exact h
theorem PoET.thn {r : R Bool} {q : Bool → SE → SO} {Q : Bool → Hp → Prop} (h : PoS c O H σ ρ (r.thn q) D)
    (z : ∀ t ρ1 H1 O1, RE c O1 H1 σ ρ1 → Step O H σ ρ O1 H1 σ ρ1 → PoS c O H σ ρ (q t ρ1) D → Q t H1) : PoET c O H σ ρ r Q := by
  cases r with
  | ok t ρ1 => exact fun H1 O1 re s => z t ρ1 H1 O1 re s h
  | ex n t => exact h
  | bad => exact h
theorem PoEA.thn {r : R (List T)} {q : List T → SE → SO} {Q : List V → Hp → Prop} (h : PoS c O H σ ρ (r.thn q) D)
    (z : ∀ t ρ1 x H1 O1, RE c O1 H1 σ ρ1 → Step O H σ ρ O1 H1 σ ρ1 → Reps c.K c.w O1 H1 t x → PoS c O H σ ρ (q t ρ1) D → Q x H1) : PoEA c O H σ ρ r Q := by
  cases r with
  | ok t ρ1 => exact fun x H1 O1 re s v => z t ρ1 x H1 O1 re s v h
  | ex n t => exact h
  | bad => exact h

/-! ### blocks -/
def sSeq (g1 g2 : SE → SO) : SE → SO := fun ρ => (g1 ρ).thn g2
theorem es_cons (h1 : PS X st (tS c g1)) (h2 : PSs X rest (tS c g2)) : PSs X (st :: rest) (tS c (sSeq g1 g2)) := PSsm (pss_cons h1 h2) fun D σ H ⟨ρ, O, re, po⟩ => by
  refine ⟨ρ, O, re, ?_⟩
  unfold sSeq at po
  cases q : g1 ρ with
  | nx ρ1 => rw [q] at po; exact fun σ1 H1 O1 re1 s1 => ⟨ρ1, O1, re1, PoS.from re.trk s1 po⟩
  | bk ρ1 => rw [q] at po; exact po
  | ct ρ1 => rw [q] at po; exact po
  | rt k t ρ1 => rw [q] at po; exact po
  | ex n t => rw [q] at po; exact po
  | bad => rw [q] at po; exact po
theorem es_nil : PSs X [] (tS c SO.nx) := PSsm pss_nil fun D σ H ⟨ρ, O, re, po⟩ => po σ H O re Step.refl
theorem es_one (h1 : PS X st (tS c g1)) : PSs X [st] (tS c g1) := pss_one h1
def sNever : SE → SO := fun _ => .bad
theorem es_never : PS X st (tS c sNever) := PSm ps_never fun D σ H ⟨ρ, O, re, po⟩ => po
theorem es_pass {pos} : PS X (.Pass pos) (tS c SO.nx) := PSm ps_pass fun D σ H ⟨ρ, O, re, po⟩ => po σ H O re Step.refl
theorem es_break {pos} : PS X (.Break pos) (tS c SO.bk) := PSm ps_break fun D σ H ⟨ρ, O, re, po⟩ => po σ H O re Step.refl
theorem es_cont {pos} : PS X (.Continue pos) (tS c SO.ct) := PSm ps_continue fun D σ H ⟨ρ, O, re, po⟩ => po σ H O re Step.refl
def sDrop (f : SE → R T) : SE → SO := fun ρ => (f ρ).thn fun _ ρ1 => .nx ρ1
theorem es_expr {te : TE} (h : PS X st (tDrop te)) (m : ∀ σ H Q, tE c k f σ H Q → te σ H Q) : PS X st (tS c (sDrop f)) := PSm h fun D σ H ⟨ρ, O, re, po⟩ =>
  m _ _ _ ⟨ρ, O, re, PoE.thn po fun t ρ1 x H1 O1 re1 s1 v fr po1 => po1 σ H1 O1 re1 s1⟩
def sRet (k : Bool) (f : SE → R T) : SE → SO := fun ρ => (f ρ).thn fun t ρ1 => .rt k t ρ1
theorem es_ret {te : TE} (h : PS X st (tRet te)) (m : ∀ σ H Q, tE c k f σ H Q → te σ H Q) : PS X st (tS c (sRet k f)) := PSm h fun D σ H ⟨ρ, O, re, po⟩ =>
  m _ _ _ ⟨ρ, O, re, PoE.thn po fun t ρ1 x H1 O1 re1 s1 v fr po1 => po1 x σ H1 O1 re1 s1 v⟩
def sIf (t : SE → R Bool) (g1 g2 : SE → SO) : SE → SO := fun ρ => (t ρ).thn fun b ρ1 => if b then g1 ρ1 else g2 ρ1
theorem es_if {d : Expr} {p q : List Stmt} {pos} {ft : SE → R Bool} (hc : PT X d (tET c ft)) (ha : PSs X p (tS c g1)) (hb : PSs X q (tS c g2)) : PS X (.If d p q pos) (tS c (sIf ft g1 g2)) := PSm (ps_if hc ha hb) fun D σ H ⟨ρ, O, re, po⟩ =>
  ⟨ρ, O, re, PoET.thn po fun b ρ1 H1 O1 re1 s1 po1 => by
    cases b with
    | true => rw [if_pos rfl]; exact ⟨ρ1, O1, re1, PoS.from re.trk s1 po1⟩
    | false => rw [if_neg Bool.false_ne_true]; exact ⟨ρ1, O1, re1, PoS.from re.trk s1 po1⟩⟩

/-! ### stores -/
def sl (k : Bool) (t : T) : Sl := match k with
  | false => .fz t
  | true => .ow t
def putS (i : Nat) (k : Bool) (t : T) (ρ : SE) : SO := if i < ρ.length then .nx (ρ.set i (sl k t)) else .bad
theorem store_ok {O1 : List Addr} {H1 : Hp} {σ1 : Sg} {ρ1 : SE} {i : Nat} {t : T} {x : V} (re1 : RE c O1 H1 σ1 ρ1) (s1 : Step O H σ ρ O1 H1 σ1 ρ1) (v : Val c k O1 H1 σ1 ρ1 t x) (fr : k = true → ∀ p, x = .ref p → Ow σ ρ p ∨ H p = none) :
    RE c O1 H1 (σ1.set i (some x)) (ρ1.set i (sl k t)) ∧ Step O H σ ρ O1 H1 (σ1.set i (some x)) (ρ1.set i (sl k t)) := by
  cases k with
  | false =>
    refine ⟨re1.put (s := .fz t) ⟨x, rfl, v⟩ no_fz, ⟨s1.keep, fun p z => s1.own p (ow_put no_fz z re1.len), s1.sub, s1.hold, s1.mono⟩⟩
  | true =>
    obtain ⟨p, e, hp, n, h0, o⟩ := v
    subst e
    refine ⟨re1.putOw hp n h0 o, ⟨s1.keep, fun q z => ?_, s1.sub, s1.hold, s1.mono⟩⟩
    rcases ow_putOw z with z | z
    · exact s1.own q z
    · rw [z]; exact fr rfl p rfl
def sAsg (i : Nat) (k : Bool) (f : SE → R T) : SE → SO := fun ρ => (f ρ).thn fun t ρ1 => putS i k t ρ1
theorem es_asg {i : Nat} {te : TE} (h : PS X st (tAsg te (gName i))) (m : ∀ σ H Q, tE c k f σ H Q → te σ H Q) : PS X st (tS c (sAsg i k f)) := PSm h fun D σ H ⟨ρ, O, re, po⟩ =>
  m _ _ _ ⟨ρ, O, re, PoE.thn po fun t ρ1 x H1 O1 re1 s1 v fr po1 => by
    unfold putS at po1
    split at po1
    · obtain ⟨r2, s2⟩ := store_ok (i := i) re1 s1 v fr
      exact po1 _ _ _ r2 s2
    · exact po1.elim⟩
/-- a, b = x, y -/
def sPar (i j : Nat) (k1 k2 : Bool) (f1 f2 : SE → R T) : SE → SO := fun ρ => (f1 ρ).thn fun t ρ1 => (f2 ρ1).thn fun u ρ2 => if i < ρ2.length ∧ j < ρ2.length ∧ i ≠ j then .nx ((ρ2.set i (sl k1 t)).set j (sl k2 u)) else .bad
theorem Val.other {k2 : Bool} {i : Nat} {t u : T} {x y : V} (re1 : RE c O H σ ρ) (v : Val c k O H σ ρ t x) (z : Val c k2 O H σ ρ u y) (ne : k = true → k2 = true → x ≠ y) : Val c k2 O H (σ.set i (some x)) (ρ.set i (sl k t)) u y := by
  cases k2 with
  | false => exact z
  | true =>
    obtain ⟨p, e, hp, n, h0, o⟩ := z
    refine ⟨p, e, hp, fun q => ?_, h0, o⟩
    cases k with
    | false => exact n (ow_put no_fz q re1.len)
    | true =>
      obtain ⟨p1, e1, hp1, n1, h01, o1⟩ := v
      subst e1
      rcases ow_putOw q with q | q
      · exact n q
      · exact ne rfl rfl (by rw [e, q])
theorem PoE.thn2 {O1 : List Addr} {H1 : Hp} {ρ1 : SE} (tr : ∀ p ∈ O, H p ≠ none) (s : Step O H σ ρ O1 H1 σ ρ1) {r : R T} {q : T → SE → SO} {Q : VK} (h : PoS c O H σ ρ (r.thn q) D)
    (z : ∀ t ρ2 x H2 O2, RE c O2 H2 σ ρ2 → Step O1 H1 σ ρ1 O2 H2 σ ρ2 → Val c k O2 H2 σ ρ2 t x → (k = true → ∀ p, x = .ref p → Ow σ ρ1 p ∨ H1 p = none) → PoS c O H σ ρ (q t ρ2) D → Q x H2) : PoE c k O1 H1 σ ρ1 r Q := by
  cases r with
  | ok t ρ2 => exact fun x H2 O2 re s2 v fr => z t ρ2 x H2 O2 re s2 v fr h
  | ex n t => exact h
  | bad => exact h
theorem es_par {i j : Nat} {k1 k2 : Bool} {t1 t2 : TE} (h : PS X st (tPar i j (tCons t1 (tCons t2 tNil)))) (m1 : ∀ σ H Q, tE c k1 f1 σ H Q → t1 σ H Q) (m2 : ∀ σ H Q, tE c k2 f2 σ H Q → t2 σ H Q) : PS X st (tS c (sPar i j k1 k2 f1 f2)) := PSm h fun D σ H ⟨ρ, O, re, po⟩ =>
  m1 _ _ _ ⟨ρ, O, re, PoE.thn po fun t ρ1 x H1 O1 re1 s1 v1 fr1 po1 => m2 _ _ _ ⟨ρ1, O1, re1, PoE.thn2 re.trk s1 po1 fun u ρ2 y H2 O2 re2 s2 v2 fr2 po2 => by
    split at po2
    · rename_i hij
      refine ⟨x, y, rfl, ?_⟩
      have v1' := v1.step re1 s2
      have ne : k1 = true → k2 = true → x ≠ y := fun hk1 hk2 e => by
        subst hk1; subst hk2
        obtain ⟨p, ex, hp, n, _⟩ := v1
        rcases fr2 rfl p (by rw [← e, ex]) with z | z
        · exact n z
        · exact re1.trk p hp z
      obtain ⟨r3, s3⟩ := store_ok (i := i) re2 (s1.trans s2 re.trk) v1' fr1
      obtain ⟨r4, s4⟩ := store_ok (i := j) r3 s3 (Val.other re2 v1' v2 ne) fun hk p e => s1.back (fr2 hk p e)
      exact po2 _ _ _ r4 s4
    · exact po2.elim⟩⟩
/-- a, b, d = x, y, z -/
def sPar3 (i j l : Nat) (k1 k2 k3 : Bool) (f1 f2 f3 : SE → R T) : SE → SO := fun ρ => (f1 ρ).thn fun t ρ1 => (f2 ρ1).thn fun u ρ2 => (f3 ρ2).thn fun v ρ3 =>
  if i < ρ3.length ∧ j < ρ3.length ∧ l < ρ3.length ∧ i ≠ j ∧ i ≠ l ∧ j ≠ l then .nx (((ρ3.set i (sl k1 t)).set j (sl k2 u)).set l (sl k3 v)) else .bad
theorem es_par3 {i j l : Nat} {k1 k2 k3 : Bool} {f3 : SE → R T} {t1 t2 t3 : TE} (h : PS X st (tPar3 i j l (tCons t1 (tCons t2 (tCons t3 tNil))))) (m1 : ∀ σ H Q, tE c k1 f1 σ H Q → t1 σ H Q) (m2 : ∀ σ H Q, tE c k2 f2 σ H Q → t2 σ H Q) (m3 : ∀ σ H Q, tE c k3 f3 σ H Q → t3 σ H Q) :
    PS X st (tS c (sPar3 i j l k1 k2 k3 f1 f2 f3)) := PSm h fun D σ H ⟨ρ, O, re, po⟩ =>
  m1 _ _ _ ⟨ρ, O, re, PoE.thn po fun t ρ1 x H1 O1 re1 s1 v1 fr1 po1 => m2 _ _ _ ⟨ρ1, O1, re1, PoE.thn2 re.trk s1 po1 fun u ρ2 y H2 O2 re2 s2 v2 fr2 po2 =>
    m3 _ _ _ ⟨ρ2, O2, re2, PoE.thn2 re.trk (s1.trans s2 re.trk) po2 fun w ρ3 z H3 O3 re3 s3 v3 fr3 po3 => by
    split at po3
    · rename_i hij
      refine ⟨x, y, z, rfl, ?_⟩
      have v1' := v1.step re1 s2
      have v1'' := v1'.step re2 s3
      have v2' := v2.step re2 s3
      have ne12 : k1 = true → k2 = true → x ≠ y := fun hk1 hk2 e => by
        subst hk1; subst hk2
        obtain ⟨p, ex, hp, n, _⟩ := v1
        rcases fr2 rfl p (by rw [← e, ex]) with z | z
        · exact n z
        · exact re1.trk p hp z
      have ne13 : k1 = true → k3 = true → x ≠ z := fun hk1 hk2 e => by
        subst hk1; subst hk2
        obtain ⟨p, ex, hp, n, _⟩ := v1'
        rcases fr3 rfl p (by rw [← e, ex]) with z | z
        · exact n z
        · exact re2.trk p hp z
      have ne23 : k2 = true → k3 = true → y ≠ z := fun hk1 hk2 e => by
        subst hk1; subst hk2
        obtain ⟨p, ex, hp, n, _⟩ := v2
        rcases fr3 rfl p (by rw [← e, ex]) with z | z
        · exact n z
        · exact re2.trk p hp z
      have s13 := (s1.trans s2 re.trk).trans s3 re.trk
      obtain ⟨r4, s4⟩ := store_ok (i := i) re3 s13 v1'' fr1
      obtain ⟨r5, s5⟩ := store_ok (i := j) r4 s4 (Val.other re3 v1'' v2' ne12) fun hk p e => s1.back (fr2 hk p e)
      obtain ⟨r6, s6⟩ := store_ok (i := l) r5 s5 (Val.other r4 (Val.other re3 v1'' v2' ne12) (Val.other re3 v1'' v3 ne13) ne23) fun hk p e => (s1.trans s2 re.trk).back (fr3 hk p e)
      exact po3 _ _ _ r6 s6
    · exact po3.elim⟩⟩⟩
/-- a, b, .. = a tuple -/
def tGE (c : C) (g : T → SE → Option SE) : TG := fun v σ H Q => ∃ ρ O t, RE c O H σ ρ ∧ Rep c.K c.w O H t v ∧ match g t ρ with
  | some ρ' => ∀ σ', RE c O H σ' ρ' → Step O H σ ρ O H σ' ρ' → Q σ' H
  | none => False
def gNE (i : Nat) : T → SE → Option SE := fun t ρ => if i < ρ.length then some (ρ.set i (.fz t)) else none
def gLE : List Nat → List T → SE → Option SE
  | [], [], ρ => some ρ
  | i :: is, t :: ts, ρ => if i < ρ.length then gLE is ts (ρ.set i (.fz t)) else none
  | _, _, _ => none
def gTE (is : List Nat) : T → SE → Option SE := fun t ρ => match t with
  | .tup ts => gLE is ts ρ
  | _ => none
theorem put_fz {i : Nat} {t : T} {x : V} (re : RE c O H σ ρ) (v : Rep c.K c.w O H t x) : RE c O H (σ.set i (some x)) (ρ.set i (.fz t)) ∧ Step O H σ ρ O H (σ.set i (some x)) (ρ.set i (.fz t)) :=
  store_ok (k := false) re Step.refl v fun z => nomatch z
theorem rd_gn {i : Nat} {v : V} {Q : St → Hp → Prop} (h : tGE c (gNE i) v σ H Q) : gName i v σ H Q := by
  obtain ⟨ρ, O, t, re, b, po⟩ := h
  unfold gNE at po
  by_cases hi : i < ρ.length
  · rw [if_pos hi] at po
    obtain ⟨r1, s1⟩ := put_fz (i := i) re b
    exact po _ r1 s1
  · rw [if_neg hi] at po; exact po.elim
def gNs : List Nat → TGs
  | [] => gNil
  | i :: is => gCons (gName i) (gNs is)
theorem rd_gl : ∀ (is : List Nat) (ts : List T) (vs : List V) (ρ0 ρ : SE) (σ0 σ : Sg) (Q : St → Hp → Prop), RE c O H σ ρ → Step O H σ0 ρ0 O H σ ρ → (∀ p ∈ O, H p ≠ none) → Reps c.K c.w O H ts vs → (match gLE is ts ρ with
    | some ρ' => ∀ σ', RE c O H σ' ρ' → Step O H σ0 ρ0 O H σ' ρ' → Q σ' H
    | none => False) → gNs is vs σ H Q
  | [], [], vs, ρ0, ρ, σ0, σ, Q, re, s, tr, r, po => by
    unfold Reps at r
    exact ⟨r, po _ re s⟩
  | i :: is, t :: ts, vs, ρ0, ρ, σ0, σ, Q, re, s, tr, r, po => by
    unfold Reps at r
    obtain ⟨v, r', e, a, b⟩ := r
    unfold gLE at po
    by_cases hi : i < ρ.length
    · rw [if_pos hi] at po
      obtain ⟨r1, s1⟩ := put_fz (i := i) re a
      exact ⟨v, r', e, rd_gl is ts r' ρ0 _ σ0 _ Q r1 (s.trans s1 tr) tr b po⟩
    · rw [if_neg hi] at po; exact po.elim
  | [], t :: ts, vs, ρ0, ρ, σ0, σ, Q, re, s, tr, r, po => po.elim
  | i :: is, [], vs, ρ0, ρ, σ0, σ, Q, re, s, tr, r, po => po.elim
theorem gLE_len : ∀ (is : List Nat) (ts : List T) (ρ ρ' : SE), gLE is ts ρ = some ρ' → ts.length = is.length
  | [], [], _, _, _ => rfl
  | i :: is, t :: ts, ρ, ρ', h => by
    unfold gLE at h
    split at h
    · rw [List.length_cons, List.length_cons, gLE_len is ts _ _ h]
    · cases h
  | [], t :: ts, _, _, h => by cases h
  | i :: is, [], _, _, h => by cases h
theorem rd_gt {K : PySem.W.Frag} (hK : K = c.K) {is : List Nat} {n : Nat} (hn : n = is.length) {v : V} {Q : St → Hp → Prop} (h : tGE c (gTE is) v σ H Q) : gTup K n (gNs is) v σ H Q := by
  obtain ⟨ρ, O, t, re, b, po⟩ := h
  unfold gTE at po
  cases t with
  | tup ts =>
    obtain ⟨p, vs, e1, hp, r⟩ := of_tup b
    cases q : gLE is ts ρ with
    | none => have po : False := by simp only [q] at po
              exact po.elim
    | some ρ' =>
      refine ⟨p, vs, e1, by rw [hK]; exact hp.sq, by rw [← r.len, gLE_len is ts ρ ρ' q, hn], rd_gl is ts vs ρ ρ σ σ Q re Step.refl re.trk r ?_⟩
      exact po
  | _ => exact po.elim
def sTup (is : List Nat) (f : SE → R T) : SE → SO := fun ρ => (f ρ).thn fun t ρ1 => match gTE is t ρ1 with
  | some ρ2 => .nx ρ2
  | none => .bad
theorem es_tup {is : List Nat} {n : Nat} {te : TE} {K : PySem.W.Frag} (h : PS X st (tAsg te (gTup K n (gNs is)))) (m : ∀ σ H Q, tE c false f σ H Q → te σ H Q) (hK : K = c.K := by rfl) (hn : n = is.length := by rfl) : PS X st (tS c (sTup is f)) := PSm h fun D σ H ⟨ρ, O, re, po⟩ =>
  m _ _ _ ⟨ρ, O, re, PoE.thn po fun t ρ1 x H1 O1 re1 s1 v fr po1 => by
    refine rd_gt hK hn ⟨ρ1, O1, t, re1, v, ?_⟩
    revert po1
    cases gTE is t ρ1 with
    | none => exact fun z => z
    | some ρ2 => exact fun po1 σ' r2 s2 => po1 σ' H1 O1 r2 (s1.trans s2 re.trk)⟩
end
end TL

set_option Elab.async false
set_option linter.all false
set_option maxRecDepth 100000
/-! TL9: loops, writes. -/
namespace TL
open PySem PySem.Spec L2

section
variable {X : Cx} {c : C} {k : Bool} {O O' : List Addr} {H H' : Hp} {σ σ' : Sg} {ρ ρ' : SE} {D : Ends} {st : Stmt} {rest : List Stmt} {g g1 g2 : SE → SO} {f f1 f2 : SE → R T}

/-! ### for -/
def forGo (g : T → SE → Option SE) (body : SE → SO) : List T → SE → SO
  | [], ρ => .nx ρ
  | t :: ts, ρ => match g t ρ with
    | none => .bad
    | some ρ1 => match body ρ1 with
      | .nx ρ2 => forGo g body ts ρ2
      | .ct ρ2 => forGo g body ts ρ2
      | .bk ρ2 => .nx ρ2
      | r => r
def sFor (it : PEv → PR (List T)) (g : T → SE → Option SE) (body : SE → SO) : SE → SO := fun ρ => match it (strict ρ) with
  | .ok ts => forGo g body ts ρ
  | .ex k t => .ex k t
  | .bad => .bad
theorem es_for {it : PEv → PR (List T)} {gg : T → SE → Option SE} {tg : TG} {tb : TS} (h : PS X st (tFor (tIt c it) tg tb)) (mg : ∀ v σ H Q, tGE c gg v σ H Q → tg v σ H Q) (mb : ∀ D σ H, tS c g D σ H → tb D σ H) : PS X st (tS c (sFor it gg g)) := PSm h fun D σ H ⟨ρ, O, re, po⟩ => by
  refine ⟨strict ρ, O, re.strict, ?_⟩
  unfold sFor at po
  cases q : it (strict ρ) with
  | ex n t => rw [q] at po; exact po
  | bad => rw [q] at po; exact po
  | ok ts =>
    rw [q] at po
    have po : PoS c O H σ ρ (forGo gg g ts ρ) D := po
    intro J H1 sm iok
    have re1 := re.same sm
    refine ⟨fun i m σ' H' => i + m = ts.length ∧ ∃ ρ' O', RE c O' H' σ' ρ' ∧ Step O H1 σ ρ O' H' σ' ρ' ∧ PoS c O H σ ρ (forGo gg g (ts.drop i) ρ') D, ⟨ts.length, by omega, ρ, O, re1, Step.refl, po⟩, fun i m σ' H' hW => ?_⟩
    obtain ⟨him, ρ1, O1, r1, s1, po1⟩ := hW
    obtain ⟨hgo, hstop⟩ := iok O1 H' (re1.car s1) r1.trk
    have s01 : Step O H σ ρ O1 H' σ' ρ1 := (Step.same sm).trans s1 re.trk
    by_cases hi : i < ts.length
    · refine .inr ?_
      obtain ⟨g1, gy⟩ := hgo i _ (List.getElem?_eq_getElem hi)
      refine ⟨g1, fun σ2 H2 => (i + 1) + (m - 1) = ts.length ∧ ∃ ρ' O', RE c O' H2 σ2 ρ' ∧ Step O H1 σ ρ O' H2 σ2 ρ' ∧ PoS c O H σ ρ (forGo gg g (ts.drop (i + 1)) ρ') D, fun σ2 H2 hN => ⟨m - 1, by omega, hN⟩, fun x H2 hy => ?_⟩
      obtain ⟨s3, rx⟩ := gy x H2 hy
      rw [List.drop_eq_getElem_cons hi] at po1
      unfold forGo at po1
      have r2 := r1.same s3
      have s12 : Step O H1 σ ρ O1 H2 σ' ρ1 := s1.trans (Step.same s3) re1.trk
      refine mg _ _ _ _ ⟨ρ1, O1, ts[i], r2, rx, ?_⟩
      cases q1 : gg ts[i] ρ1 with
      | none => rw [q1] at po1; exact po1
      | some ρ2 =>
        rw [q1] at po1
        dsimp only at po1
        intro σ3 r3 s33
        refine mb _ _ _ ⟨ρ2, O1, r3, ?_⟩
        have s13 := s12.trans s33 re1.trk
        have s03 : Step O H σ ρ O1 H2 σ3 ρ2 := (Step.same sm).trans s13 re.trk
        cases q2 : g ρ2 with
        | nx ρ3 =>
          rw [q2] at po1
          exact fun σ4 H4 O4 r4 s4 => ⟨by omega, ρ3, O4, r4, s13.trans s4 re1.trk, po1⟩
        | ct ρ3 =>
          rw [q2] at po1
          exact fun σ4 H4 O4 r4 s4 => ⟨by omega, ρ3, O4, r4, s13.trans s4 re1.trk, po1⟩
        | bk ρ3 =>
          rw [q2] at po1
          exact fun σ4 H4 O4 r4 s4 => po1 σ4 H4 O4 r4 (s03.trans s4 re.trk)
        | rt k t ρ3 =>
          rw [q2] at po1
          exact fun x4 σ4 H4 O4 r4 s4 v4 => po1 x4 σ4 H4 O4 r4 (s03.trans s4 re.trk) v4
        | ex n t => rw [q2] at po1; exact po1
        | bad => rw [q2] at po1; exact po1
    · have e : i = ts.length := by omega
      subst e
      rw [List.drop_length] at po1
      exact .inl ⟨hstop, po1 σ' H' O1 r1 s01⟩

/-! ### while -/
def whGo (t : SE → R Bool) (body : SE → SO) : Nat → SE → SO
  | 0, _ => .bad
  | n + 1, ρ => (t ρ).thn fun b ρ1 => if b then (match body ρ1 with
      | .nx ρ2 => whGo t body n ρ2
      | .ct ρ2 => whGo t body n ρ2
      | .bk ρ2 => .nx ρ2
      | r => r) else .nx ρ1
def sWh (n : Nat) (t : SE → R Bool) (body : SE → SO) : SE → SO := fun ρ => whGo t body n ρ
theorem es_wh {n : Nat} {ft : SE → R Bool} {tc : TT} {tb : TS} (h : PS X st (tWhile tc tb)) (mc : ∀ σ H Q, tET c ft σ H Q → tc σ H Q) (mb : ∀ D σ H, tS c g D σ H → tb D σ H) : PS X st (tS c (sWh n ft g)) := PSm h fun D σ H ⟨ρ, O, re, po⟩ => by
  refine ⟨fun m σ' H' => ∃ ρ' O', RE c O' H' σ' ρ' ∧ Step O H σ ρ O' H' σ' ρ' ∧ PoS c O H σ ρ (whGo ft g m ρ') D, ⟨n, ρ, O, re, Step.refl, po⟩, fun m σ' H' hW => ?_⟩
  obtain ⟨ρ1, O1, r1, s1, po1⟩ := hW
  cases m with
  | zero => exact po1.elim
  | succ m =>
    unfold whGo at po1
    refine mc _ _ _ ⟨ρ1, O1, r1, ?_⟩
    cases q : ft ρ1 with
    | ex n t => rw [q] at po1; exact po1
    | bad => rw [q] at po1; exact po1
    | ok b ρ2 =>
      rw [q] at po1
      intro H2 O2 r2 s2
      have s02 := s1.trans s2 re.trk
      cases b with
      | false =>
        rw [if_neg Bool.false_ne_true]
        exact po1 σ' H2 O2 r2 s02
      | true =>
        rw [if_pos rfl]
        have po1 : PoS c O H σ ρ (match g ρ2 with
          | .nx ρ2 => whGo ft g m ρ2
          | .ct ρ2 => whGo ft g m ρ2
          | .bk ρ2 => .nx ρ2
          | r => r) D := po1
        refine ⟨fun σ3 H3 => ∃ ρ' O', RE c O' H3 σ3 ρ' ∧ Step O H σ ρ O' H3 σ3 ρ' ∧ PoS c O H σ ρ (whGo ft g m ρ') D, fun σ3 H3 hN => ⟨m, by omega, hN⟩, mb _ _ _ ⟨ρ2, O2, r2, ?_⟩⟩
        cases q2 : g ρ2 with
        | nx ρ3 => rw [q2] at po1; exact fun σ4 H4 O4 r4 s4 => ⟨ρ3, O4, r4, s02.trans s4 re.trk, po1⟩
        | ct ρ3 => rw [q2] at po1; exact fun σ4 H4 O4 r4 s4 => ⟨ρ3, O4, r4, s02.trans s4 re.trk, po1⟩
        | bk ρ3 => rw [q2] at po1; exact fun σ4 H4 O4 r4 s4 => po1 σ4 H4 O4 r4 (s02.trans s4 re.trk)
        | rt k t ρ3 => rw [q2] at po1; exact fun x4 σ4 H4 O4 r4 s4 v4 => po1 x4 σ4 H4 O4 r4 (s02.trans s4 re.trk) v4
        | ex n t => rw [q2] at po1; exact po1
        | bad => rw [q2] at po1; exact po1

/-! ### writing into what is one's own -/
/-- the slot's mode stays -/
def Sl.like : Sl → T → Sl
  | .ow _, t => .ow t
  | .io _, t => .io t
  | s, _ => s
def Sl.own : Sl → Option T
  | .ow t => some t
  | .io t => some t
  | _ => none
theorem RE.write {j : Nat} {s : Sl} {t t' : T} {a : Addr} {o' : HO} (r : RE c O H σ ρ) (e1 : σ[j]? = some (some (.ref a))) (e2 : ρ[j]? = some s) (e3 : s.own = some t) (ho : Own c.K c.w O (upd H a o') t' a) :
    RE c O (upd H a o') σ (ρ.set j (s.like t')) ∧ Step O H σ ρ O (upd H a o') σ (ρ.set j (s.like t')) := by
  have hj : j < ρ.length := (List.getElem?_eq_some_iff.mp e2).1
  have hs : ρ[j]? = some (.ow t) ∨ ρ[j]? = some (.io t) := by
    cases s with
    | ow u => cases e3; exact .inl e2
    | io u => cases e3; exact .inr e2
    | un => cases e3
    | fz u => cases e3
    | gd g u => cases e3
  have haO : a ∈ O := r.own_in ⟨j, t, e1, hs⟩
  have ca : Car O H O (upd H a o') := car_upd haO
  have ne : ∀ (i : Nat) p u, i ≠ j → σ[i]? = some (some (.ref p)) → (ρ[i]? = some (.ow u) ∨ ρ[i]? = some (.io u)) → p ≠ a := fun i p u hi h1 h2 z => hi (r.dist i j a u t (by rw [h1, z]) e1 h2 hs)
  have lk : (∀ u, s.like t' ≠ .fz u) ∧ s.like t' ≠ .un := by
    cases s with
    | ow u => exact And.intro (fun _ z => by cases z) (fun z => by cases z)
    | io u => exact And.intro (fun _ z => by cases z) (fun z => by cases z)
    | un => cases e3
    | fz u => cases e3
    | gd g u => cases e3
  have own_iff : ∀ p, Ow σ (ρ.set j (s.like t')) p → Ow σ ρ p := fun p ⟨i, u, h1, h2⟩ => by
    by_cases hi : i = j
    · subst hi
      rw [e1] at h1; cases h1
      exact ⟨i, t, e1, hs⟩
    · rw [List.getElem?_set_ne (Ne.symm hi)] at h2
      exact ⟨i, u, h1, h2⟩
  refine ⟨⟨by rw [List.length_set]; exact r.len, fun i s2 v h1 h2 => ?_, fun i l p u u' h1 h2 h3 h4 => ?_, fun p hp => ?_, fun p o e n => ?_, fun p e => ?_, r.gtrk, r.outer, r.otrk, r.onew⟩, ⟨fun p o e n => ?_, fun p z => .inl (own_iff p z), fun _ z => .inl z, fun _ z _ => z, fun p e => ?_⟩⟩
  · by_cases hi : j = i
    · subst hi
      rw [List.getElem?_set_self hj] at h1
      cases h1
      rw [e1] at h2; cases h2
      have z := r.slots j s _ e2 e1
      cases s with
      | ow u => obtain ⟨a', e', m, h0, _⟩ := z; cases e'; exact ⟨a, rfl, m, h0, ho⟩
      | io u => obtain ⟨a', e', m, h0, _⟩ := z; cases e'; exact ⟨a, rfl, m, h0, ho⟩
      | un => cases e3
      | fz u => cases e3
      | gd g u => cases e3
    · rw [List.getElem?_set_ne hi] at h1
      have z := r.slots i s2 v h1 h2
      cases s2 with
      | un => trivial
      | fz u => obtain ⟨x, e, h⟩ := z; exact ⟨x, e, h.car ca⟩
      | gd g u => obtain ⟨x, e, h, y⟩ := z; exact ⟨x, e, h.car ca, y.car ca h⟩
      | ow u =>
        obtain ⟨x, e, m, h0, h⟩ := z
        exact ⟨x, e, m, h0, h.car ca fun o q => by rw [upd_ne (ne i x u (Ne.symm hi) (by rw [h2, e]) (.inl h1))]; exact q⟩
      | io u =>
        obtain ⟨x, e, m, h0, h⟩ := z
        exact ⟨x, e, m, h0, h.car ca fun o q => by rw [upd_ne (ne i x u (Ne.symm hi) (by rw [h2, e]) (.inr h1))]; exact q⟩
  · have cv : ∀ (i : Nat) u, ((ρ.set j (s.like t'))[i]? = some (.ow u) ∨ (ρ.set j (s.like t'))[i]? = some (.io u)) → ∃ u, ρ[i]? = some (.ow u) ∨ ρ[i]? = some (.io u) := fun i u h => by
      by_cases hi : j = i
      · subst hi; exact ⟨t, hs⟩
      · rw [List.getElem?_set_ne hi] at h; exact ⟨u, h⟩
    obtain ⟨w1, q1⟩ := cv i u h3
    obtain ⟨w2, q2⟩ := cv l u' h4
    exact r.dist i l p w1 w2 h1 h2 q1 q2
  · by_cases h : p = a
    · subst h; rw [upd_same]; exact fun z => nomatch z
    · rw [upd_ne h]; exact r.trk p hp
  · have z := r.frame p o e n
    have h : p ≠ a := fun q => by
      subst q
      have sr := r.slots j s _ e2 e1
      cases s with
      | ow u => obtain ⟨a', e', m, h0, _⟩ := sr; cases e'; rw [h0] at e; cases e
      | io u => obtain ⟨a', e', m, h0, _⟩ := sr; cases e'; exact n h0
      | un => cases e3
      | fz u => cases e3
      | gd g u => cases e3
    rw [upd_ne h]; exact z
  · by_cases h : p = a
    · subst h; rw [upd_same]; exact fun z => nomatch z
    · rw [upd_ne h]; exact r.kept p e
  · rw [upd_ne fun q => n (by rw [q]; exact ⟨j, t, e1, hs⟩)]; exact e
  · by_cases h : p = a
    · subst h; rw [upd_same]; exact fun z => nomatch z
    · rw [upd_ne h]; exact e

def ownAt (ρ : SE) (j : Nat) : Option T := (ρ[j]?).bind Sl.own
def likeAt (ρ : SE) (j : Nat) (t : T) : SE := match ρ[j]? with
  | some s => ρ.set j (s.like t)
  | none => ρ
theorem own_at {j : Nat} {t : T} (re : RE c O H σ ρ) (e : ownAt ρ j = some t) : ∃ a s, σ[j]? = some (some (.ref a)) ∧ ρ[j]? = some s ∧ s.own = some t ∧ Own c.K c.w O H t a ∧ a ∈ O := by
  unfold ownAt at e
  cases q : ρ[j]? with
  | none => rw [q] at e; cases e
  | some s =>
    rw [q] at e
    have eo : s.own = some t := e
    obtain ⟨v, hv⟩ := slot_some re q
    have z := re.slots j s v q hv
    cases s with
    | ow u => cases eo; obtain ⟨a, e', m, _, o⟩ := z; exact ⟨a, _, by rw [hv, e'], rfl, rfl, o, m⟩
    | io u => cases eo; obtain ⟨a, e', m, _, o⟩ := z; exact ⟨a, _, by rw [hv, e'], rfl, rfl, o, m⟩
    | un => cases eo
    | fz u => cases eo
    | gd g u => cases eo
/-- a write, by the slot -/
theorem write_at {j : Nat} {t t' : T} {a : Addr} {o' : HO} (r : RE c O H σ ρ) (e1 : σ[j]? = some (some (.ref a))) (e : ownAt ρ j = some t) (ho : Own c.K c.w O (upd H a o') t' a) :
    RE c O (upd H a o') σ (likeAt ρ j t') ∧ Step O H σ ρ O (upd H a o') σ (likeAt ρ j t') := by
  obtain ⟨a', s, h1, h2, h3, _, _⟩ := own_at r e
  unfold likeAt
  rw [h2]
  exact r.write e1 h2 h3 ho
/-- x.append(e) -/
def sApp (j : Nat) (f : SE → R T) : SE → SO := fun ρ => match ownAt ρ j with
  | some (.lst _) => (f ρ).thn fun t ρ1 => match ownAt ρ1 j with
    | some (.lst ts) => if ts.length < 16777216 then .nx (likeAt ρ1 j (.lst (ts ++ [t]))) else .bad
    | _ => .bad
  | _ => .bad
theorem es_app {j : Nat} {te : TE} {K : PySem.W.Frag} (h : PS X st (tDrop (tBM K "list" rAppend (tVar j) (tCons te tNil)))) (m : ∀ σ H Q, tE c false f σ H Q → te σ H Q) : PS X st (tS c (sApp j f)) := PSm h fun D σ H ⟨ρ, O, re, po⟩ => by
  unfold sApp at po
  split at po
  · rename_i ts0 e0
    obtain ⟨a, s0, ea, _, _, ⟨vs0, h0, r0⟩, _⟩ := own_at re e0
    refine ⟨.ref a, ea, .inl ⟨rfl, vs0, SqL.of h0⟩, m _ _ _ ⟨ρ, O, re, PoE.thn po fun t ρ1 x H1 O1 re1 s1 v fr po1 => ?_⟩⟩
    split at po1
    · rename_i ts eo
      split at po1
      · rename_i hz
        obtain ⟨a', s, ea', _, _, ⟨vs, hvs, rv⟩, hm⟩ := own_at re1 eo
        rw [ea] at ea'; cases ea'
        have cu : Car O1 H1 O1 (upd H1 a (.lst (vs ++ [x]))) := car_upd hm
        obtain ⟨r2, s2⟩ := write_at re1 (t' := .lst (ts ++ [t])) (o' := .lst (vs ++ [x])) ea eo ⟨_, upd_same, (Reps.car cu _ _ rv).append (Reps.cons (Rep.car cu _ _ v) Reps.nil)⟩
        exact ⟨a, vs, x, rfl, rfl, hvs, by rw [← rv.len, sizeLine_eq]; exact hz, po1 σ _ O1 r2 (s1.trans s2 re.trk)⟩
      · exact po1.elim
    · exact po1.elim
  · exact po.elim
/-- x.pop(i), x.pop() -/
def popAt (j : Nat) (f : SE → R T) : SE → R T := fun ρ => match ownAt ρ j with
  | some (.lst _) => (f ρ).bind fun t ρ1 => match t, ownAt ρ1 j with
    | .int i, some (.lst ts) => if small ts then (match ixN ts.length i with
      | some n => match ts[n]? with
        | some y => .ok y (likeAt ρ1 j (.lst (ts.eraseIdx n)))
        | none => .bad
      | none => .bad) else .bad
    | _, _ => .bad
  | _ => .bad
theorem rd_pop {j : Nat} {te : TE} {K : PySem.W.Frag} (m : ∀ σ H Q, tE c false f σ H Q → te σ H Q) {Q : VK} (h : tE c false (popAt j f) σ H Q) : tBM K "list" rPopAt (tVar j) (tCons te tNil) σ H Q := by
  obtain ⟨ρ, O, re, po⟩ := h
  unfold popAt at po
  split at po
  · rename_i ts0 e0
    obtain ⟨a, s0, ea, _, _, ⟨vs0, h0, r0⟩, _⟩ := own_at re e0
    refine ⟨.ref a, ea, .inl ⟨rfl, vs0, SqL.of h0⟩, m _ _ _ ⟨ρ, O, re, PoE.bind isE po fun t ρ1 x H1 O1 re1 s1 v fr po1 => ?_⟩⟩
    split at po1
    · rename_i i ts eo
      by_cases hz : small ts = true
      rotate_left
      · rw [if_neg hz] at po1; exact po1.elim
      rw [if_pos hz] at po1
      split at po1
      · rename_i n en
        split at po1
        · rename_i y ey
          obtain ⟨a', s, ea', _, _, ⟨vs, hvs, rv⟩, hm⟩ := own_at re1 eo
          rw [ea] at ea'; cases ea'
          obtain ⟨z, hgz, rz⟩ := rv.get ey
          have cu : Car O1 H1 O1 (upd H1 a (.lst (vs.eraseIdx n))) := car_upd hm
          obtain ⟨r2, s2⟩ := write_at re1 (t' := .lst (ts.eraseIdx n)) (o' := .lst (vs.eraseIdx n)) ea eo ⟨_, upd_same, Reps.car cu _ _ (rv.eraseIdx n)⟩
          obtain ⟨q1, q2, q3, q4⟩ := ixN_seq en
          have hl : ts.length ≤ 16777216 := of_decide_eq_true hz
          refine ⟨a, vs, i, n, z, rfl, by rw [of_int (show Rep c.K c.w O1 H1 (.int i) x from v)], hvs, by omega, by omega, by rw [← rv.len]; exact q1, hgz, po1 z _ O1 r2 (s1.trans s2 re.trk) (Rep.car cu _ _ rz) fun w => nomatch w⟩
        · exact po1.elim
      · exact po1.elim
    · exact po1.elim
  · exact po.elim
end
end TL

set_option Elab.async false
set_option linter.all false
set_option maxRecDepth 100000
/-! TLA: stores by place, dicts. -/
namespace TL
open PySem PySem.Spec L2

def T.key : T → Option Key
  | .int i => some (.inl i)
  | .str x => some (.inr x)
  | _ => none
def dgetT : List Key → List T → Key → Option T
  | k :: ks, t :: ts, q => if k = q then some t else dgetT ks ts q
  | _, _, _ => none
def dputT (ks : List Key) (ts : List T) (k : Key) (t : T) : T :=
  if (ks.any fun k' => decide (k' = k)) = true then .dct ks (List.zipWith (fun k' t' => if k' = k then t else t') ks ts) else .dct (ks ++ [k]) (ts ++ [t])
section
variable {K : PySem.W.Frag} {w : World} {O : List Addr} {H : Hp}
theorem Rep.key {t : T} {v : V} {k : Key} (h : Rep K w O H t v) (e : t.key = some k) : v = kV k := by
  cases t with
  | int i => cases e; exact of_int h
  | str i => cases e; exact of_str h
  | _ => cases e
theorem dget_ok : ∀ {kvs : List (Key × V)} {ts : List T} {k : Key}, Reps K w O H ts (kvs.map (·.2)) →
    (∀ t, dgetT (kvs.map (·.1)) ts k = some t → ∃ v, valV kvs k = some v ∧ Rep K w O H t v) ∧ (dgetT (kvs.map (·.1)) ts k = none → valV kvs k = none)
  | [], ts, k, r => by
    refine ⟨fun t e => ?_, fun _ => rfl⟩
    cases ts <;> cases e
  | p :: kvs, [], k, r => by unfold Reps at r; cases r
  | p :: kvs, t :: ts, k, r => by
    rw [List.map_cons] at r
    unfold Reps at r
    obtain ⟨v, r', e, a, b⟩ := r
    cases e
    obtain ⟨h1, h2⟩ := dget_ok (k := k) b
    rw [List.map_cons]
    by_cases hk : p.1 = k
    · refine ⟨fun u e => ?_, fun e => ?_⟩
      · unfold dgetT at e; rw [if_pos hk] at e; cases e; exact ⟨p.2, valV_pos hk, a⟩
      · unfold dgetT at e; rw [if_pos hk] at e; cases e
    · refine ⟨fun u e => ?_, fun e => ?_⟩
      · unfold dgetT at e; rw [if_neg hk] at e; rw [valV_neg hk]; exact h1 u e
      · unfold dgetT at e; rw [if_neg hk] at e; rw [valV_neg hk]; exact h2 e
theorem dput_rep {kvs : List (Key × V)} {ts : List T} {k : Key} {t : T} {v : V} (r : Reps K w O H ts (kvs.map (·.2))) (rv : Rep K w O H t v) :
    ∃ us, dputT (kvs.map (·.1)) ts k t = .dct ((putK kvs k v).map (·.1)) us ∧ Reps K w O H us ((putK kvs k v).map (·.2)) := by
  unfold dputT putK
  have e : ((kvs.map (·.1)).any fun k' => decide (k' = k)) = (kvs.any fun kv => decide (kv.1 = k)) := by rw [List.any_map]; rfl
  rw [e]
  by_cases hk : (kvs.any fun kv => decide (kv.1 = k)) = true
  · rw [if_pos hk, if_pos hk]
    refine ⟨List.zipWith (fun k' t' => if k' = k then t else t') (kvs.map (·.1)) ts, ?_, ?_⟩
    · have : (List.map (fun kv => if kv.1 = k then (kv.1, v) else kv) kvs).map (·.1) = kvs.map (·.1) := by
        rw [List.map_map]
        apply List.map_congr_left
        intro p _
        simp only [Function.comp]
        split <;> rfl
      rw [this]
    · rw [List.map_map]
      have go : ∀ (kvs : List (Key × V)) (ts : List T), Reps K w O H ts (kvs.map (·.2)) → Reps K w O H (List.zipWith (fun k' t' => if k' = k then t else t') (kvs.map (·.1)) ts) (kvs.map ((·.2) ∘ fun kv => if kv.1 = k then (kv.1, v) else kv)) := by
        intro kvs
        induction kvs with
        | nil => intro ts r; cases ts <;> exact Reps.nil
        | cons p kvs ih =>
          intro ts r
          cases ts with
          | nil => rw [List.map_cons] at r; unfold Reps at r; cases r
          | cons u us =>
            rw [List.map_cons] at r
            unfold Reps at r
            obtain ⟨z, r', e', a', b'⟩ := r
            cases e'
            rw [List.map_cons, List.map_cons, List.zipWith_cons_cons]
            refine Reps.cons ?_ (ih us b')
            by_cases hp : p.1 = k
            · simp only [Function.comp, if_pos hp]; exact rv
            · simp only [Function.comp, if_neg hp]; exact a'
      exact go kvs ts r
  · rw [if_neg hk, if_neg hk]
    refine ⟨ts ++ [t], by rw [List.map_append]; rfl, ?_⟩
    rw [List.map_append]
    exact r.append (Reps.cons rv Reps.nil)
theorem dput_ok {kvs : List (Key × V)} {ts : List T} {k : Key} {t : T} {v : V} {a : Addr} (r : Reps K w O H ts (kvs.map (·.2))) (rv : Rep K w O H t v) (ha : a ∈ O) : Own K w O (upd H a (.dK (putK kvs k v))) (dputT (kvs.map (·.1)) ts k t) a := by
  obtain ⟨us, e, r2⟩ := dput_rep r rv
  rw [e]
  exact ⟨_, upd_same, rfl, Reps.car (car_upd ha) _ _ r2⟩
end

theorem PSet.or {X : Cx} {t t' : TSet} (h : PSet X t) (h' : PSet X t') : PSet X (fun o i v H Q => t o i v H Q ∨ t' o i v H Q) := fun pins s σ H o i v ov iv u Q I ro ri rv q => by
  rcases q with q | q
  · exact h pins s σ H o i v ov iv u Q I ro ri rv q
  · exact h' pins s σ H o i v ov iv u Q I ro ri rv q
abbrev rSetA : TSet := fun o i v H Q => rSetL o i v H Q ∨ rSetD o i v H Q
theorem set_any {X : Cx} (hu : X.A.units + 1 < cLine) : PSet X rSetA := PSet.or set_list (set_dict hu)
def storeT (u i t : T) : Option T := match u with
  | .lst ts => match i with
    | .int n => (ixN ts.length n).map fun m => .lst (ts.set m t)
    | _ => none
  | .dct ks ts => match i.key with
    | some k => if ks.length < 16777216 then some (dputT ks ts k t) else none
    | none => none
  | _ => none
/-- x[i] = e -/
def sSet (j : Nat) (f fi : SE → R T) : SE → SO := fun ρ => match ownAt ρ j with
  | some _ => (f ρ).thn fun t ρ1 => (fi ρ1).thn fun i ρ2 => match ownAt ρ2 j with
    | some u => match storeT u i t with
      | some u' => .nx (likeAt ρ2 j u')
      | none => .bad
    | none => .bad
  | none => .bad
section
variable {X : Cx} {c : C} {st : Stmt} {f fi : SE → R T}
theorem es_set {j : Nat} {te ti : TE} (h : PS X st (tAsg te (L2.gSub (tVar j) ti rSetA))) (m : ∀ σ H Q, tE c false f σ H Q → te σ H Q) (mi : ∀ σ H Q, tE c false fi σ H Q → ti σ H Q) : PS X st (tS c (sSet j f fi)) := PSm h fun D σ H ⟨ρ, O, re, po⟩ => by
  unfold sSet at po
  split at po
  · rename_i u0 e0
    obtain ⟨a, s0, ea, _, _, _, _⟩ := own_at re e0
    refine m _ _ _ ⟨ρ, O, re, PoE.thn po fun t ρ1 x H1 O1 re1 s1 v fr po1 => ⟨.ref a, ea, mi _ _ _ ⟨ρ1, O1, re1, PoE.thn2 re.trk s1 po1 fun i ρ2 y H2 O2 re2 s2 vi fri po2 => ?_⟩⟩⟩
    split at po2
    · rename_i u eo
      split at po2
      · rename_i u' eu
        obtain ⟨a', s, ea', hsl1, hsl2, ho, hm⟩ := own_at re2 eo
        rw [ea] at ea'; cases ea'
        have v2 : Rep c.K c.w O2 H2 t x := Val.step re1 s2 v
        have s02 := s1.trans s2 re.trk
        unfold storeT at eu
        cases u with
        | lst ts =>
          cases i with
          | int n =>
            dsimp only at eu
            cases en : ixN ts.length n with
            | none => rw [en] at eu; cases eu
            | some mm =>
              rw [en] at eu; cases eu
              obtain ⟨vs, hvs, rv⟩ := ho
              have cu : Car O2 H2 O2 (upd H2 a (.lst (vs.set mm x))) := car_upd hm
              obtain ⟨r3, s3⟩ := write_at re2 (t' := .lst (ts.set mm t)) (o' := .lst (vs.set mm x)) ea eo ⟨_, upd_same, Reps.car cu _ _ (rv.set v2 mm)⟩
              exact .inl ⟨a, vs, n, mm, rfl, of_int (show Rep c.K c.w O2 H2 (.int n) y from vi), hvs, by rw [← rv.len]; exact en, po2 σ _ O2 r3 (s02.trans s3 re.trk)⟩
          | _ => cases eu
        | dct ks ts =>
          dsimp only at eu
          cases ek : i.key with
          | none => rw [ek] at eu; cases eu
          | some k =>
            rw [ek] at eu
            dsimp only at eu
            by_cases hz : ks.length < 16777216
            · rw [if_pos hz] at eu
              cases eu
              obtain ⟨kvs, hk, e1, rv⟩ := ho
              subst e1
              obtain ⟨r3, s3⟩ := write_at re2 (o' := .dK (putK kvs k x)) ea eo (dput_ok rv v2 hm)
              have ey : y = kV k := Rep.key (show Rep c.K c.w O2 H2 i y from vi) ek
              refine .inr ⟨a, _, rfl, ?_, po2 σ _ O2 r3 (s02.trans s3 re.trk)⟩
              rw [ey]
              exact DPut.k hk (by rw [List.length_map] at hz; rw [sizeLine_eq]; exact hz)
            · rw [if_neg hz] at eu; cases eu
        | _ => cases eu
      · exact po2.elim
    · exact po2.elim
  · exact po.elim
end

/-! ### reading dicts -/
section
variable {X : Cx} {c : C} {o e : Expr} {fo fe fx : PEv → PR T} {pos apos cpos : Pos}
def pGet (fo fe : PEv → PR T) : PEv → PR T := fun ρ => (fo ρ).bind fun d => match d with
  | .dct ks ts => (fe ρ).bind fun u => PR.of (u.key.map fun q => (dgetT ks ts q).getD .non)
  | _ => .bad
theorem rd_get {σ : Sg} {H : Hp} {Q : VK} (h : tP c (pGet fo fe) σ H Q) : tDGet1 (tP c fo) (tP c fe) σ H Q := by
  obtain ⟨ρ, O, re, po⟩ := h
  refine ⟨ρ, O, re, PoP.bind isP po fun t x H1 s1 b1 po1 => ?_⟩
  cases t with
  | dct ks ts =>
    obtain ⟨a, kvs, e1, n, hd, ek, r⟩ := of_dct b1
    subst ek
    refine ⟨a, e1, .inl ⟨kvs, .inl hd⟩, ρ, O, re.same s1, PoP.bind isP po1 fun u y H2 s2 b2 po2 => ?_⟩
    cases q : u.key with
    | none => rw [q] at po2; exact po2.elim
    | some k =>
      rw [q] at po2
      have ey := b2.key q
      obtain ⟨g1, g2⟩ := dget_ok (k := k) (r.same s2)
      refine ⟨valV kvs k, by rw [ey]; exact DGet.k (s2 _ _ hd), ?_⟩
      have po2 : PoP c O H (.ok ((dgetT (kvs.map (·.1)) ts k).getD .non)) Q := po2
      cases z : dgetT (kvs.map (·.1)) ts k with
      | some t' =>
        obtain ⟨v, h1, h2⟩ := g1 t' z
        rw [h1]
        rw [z] at po2
        exact po2 v H2 (s1.trans s2) h2
      | none =>
        rw [g2 z]
        rw [z] at po2
        exact po2 _ H2 (s1.trans s2) rep_non
  | _ => exact po1.elim
theorem ev_get (h : PE X e (tDGet1 (tP c fo) (tP c fe))) : PE X e (tP c (pGet fo fe)) := PEm h fun _ _ _ => rd_get
def pGet2 (fo fe fx : PEv → PR T) : PEv → PR T := fun ρ => (fo ρ).bind fun d => match d with
  | .dct ks ts => (fe ρ).bind fun u => (fx ρ).bind fun z => PR.of (u.key.map fun q => (dgetT ks ts q).getD z)
  | _ => .bad
theorem rd_get2 {σ : Sg} {H : Hp} {Q : VK} (h : tP c (pGet2 fo fe fx) σ H Q) : tDGet2 (tP c fo) (tP c fe) (tP c fx) σ H Q := by
  obtain ⟨ρ, O, re, po⟩ := h
  refine ⟨ρ, O, re, PoP.bind isP po fun t x H1 s1 b1 po1 => ?_⟩
  cases t with
  | dct ks ts =>
    obtain ⟨a, kvs, e1, n, hd, ek, r⟩ := of_dct b1
    subst ek
    refine ⟨a, e1, .inl ⟨kvs, .inl hd⟩, ρ, O, re.same s1, PoP.bind isP po1 fun u y H2 s2 b2 po2 => ⟨ρ, O, re.same (s1.trans s2), PoP.bind isP po2 fun w z H3 s3 b3 po3 => ?_⟩⟩
    cases q : u.key with
    | none => rw [q] at po3; exact po3.elim
    | some k =>
      rw [q] at po3
      have ey := b2.key q
      obtain ⟨g1, g2⟩ := dget_ok (k := k) (r.same (s2.trans s3))
      refine ⟨valV kvs k, by rw [ey]; exact DGet.k (s3 _ _ (s2 _ _ hd)), ?_⟩
      have po3 : PoP c O H (.ok ((dgetT (kvs.map (·.1)) ts k).getD w)) Q := po3
      cases z' : dgetT (kvs.map (·.1)) ts k with
      | some t' =>
        obtain ⟨v, h1, h2⟩ := g1 t' z'
        rw [h1]
        rw [z'] at po3
        exact po3 v H3 ((s1.trans s2).trans s3) h2
      | none =>
        rw [g2 z']
        rw [z'] at po3
        exact po3 _ H3 ((s1.trans s2).trans s3) b3
  | _ => exact po1.elim
theorem ev_get2 (h : PE X e (tDGet2 (tP c fo) (tP c fe) (tP c fx))) : PE X e (tP c (pGet2 fo fe fx)) := PEm h fun _ _ _ => rd_get2
/-- {} -/
theorem ev_d0 : PE X (.Dict [] [] pos) (tN c (pC (.dct [] []))) := PEm pe_dnewK fun σ H Q ⟨ρ, O, re, po⟩ => fun p n => po p _ (same_upd n) n ⟨[], upd_same, rfl, Reps.nil⟩
/-- d[k] -/
def gDix : T → T → Option T := fun d u => match d with
  | .dct ks ts => u.key.bind fun q => dgetT ks ts q
  | d => gIx d u
theorem PEor {e : Expr} {t t' : TE} (h : PE X e t) (h' : PE X e t') : PE X e (fun σ H Q => t σ H Q ∨ t' σ H Q) := ⟨fun pins s σ H Q I q => by
  rcases q with q | q
  · exact h.run pins s σ H Q I q
  · exact h'.run pins s σ H Q I q⟩
theorem ev_dix (hu : X.A.units + 1 < cLine) (ho : PE X o (tP c fo)) (he : PE X e (tP c fe)) (hs : PlainIx e := by exact fun _ _ => rfl) (hn : NoSl e := by exact fun _ _ => rfl) (hK : X.K = c.K := by rfl) : PE X (.Subscript o e pos) (tP c (pOp gDix fo fe)) :=
  PEm (PEor (pe_ix ix_seq ho he hs) (pe_dget hu ho he hn)) fun σ H Q ⟨ρ, O, re, po⟩ => by
    unfold pOp at po
    cases q1 : fo ρ with
    | bad => rw [q1] at po; exact po.elim
    | ex k t => rw [q1] at po; exact .inl ⟨ρ, O, re, by rw [q1]; exact po⟩
    | ok d =>
      rw [q1, PR.bind_ok] at po
      have seq : (∀ u, gDix d u = gIx d u) → tOp (rIx X.K) (tP c fo) (tP c fe) σ H Q := fun hne => by
        rw [hK]
        refine rd_op ok_ix ⟨ρ, O, re, ?_⟩
        unfold pOp
        rw [q1, PR.bind_ok]
        simp only [hne] at po
        exact po
      cases d with
      | dct ks ts =>
        refine .inr ⟨ρ, O, re, ?_⟩
        rw [q1]
        intro x H1 s1 b1
        obtain ⟨a, kvs, e1, n, hd, ek, r⟩ := of_dct b1
        subst ek
        refine ⟨ρ, O, re.same s1, PoP.bind isP po fun u y H2 s2 b2 po2 => ?_⟩
        have po2 : PoP c O H (PR.of (u.key.bind fun q => dgetT (kvs.map (·.1)) ts q)) Q := po2
        cases q : u.key with
        | none => rw [q] at po2; exact po2.elim
        | some k =>
          rw [q] at po2
          obtain ⟨g1, g2⟩ := dget_ok (k := k) (r.same s2)
          have po2 : PoP c O H (PR.of (dgetT (kvs.map (·.1)) ts k)) Q := po2
          cases z : dgetT (kvs.map (·.1)) ts k with
          | none => rw [z] at po2; exact po2.elim
          | some t' =>
            obtain ⟨v, h1, h2⟩ := g1 t' z
            rw [z] at po2
            exact ⟨a, v, e1, by rw [b2.key q, ← h1]; exact DGet.k (s2 _ _ hd), po2 v H2 (s1.trans s2) h2⟩
      | _ => exact .inl (seq fun _ => rfl)
end
end TL

set_option Elab.async false
set_option linter.all false
set_option maxRecDepth 100000
/-! TLB: defs and their calls. -/
namespace TL
open PySem PySem.Spec L2

/-- what an error that leaves is to be -/
def Rz (K : PySem.W.Frag) (w : World) (mg : Str → Option Value) (O : List Addr) (H : Hp) (E : XK) (k : Str) (t : T) : Prop :=
  ∀ cls dd H' x, mg k = some cls → Same H H' → H' dd = some (.xd [("value", x)]) → Rep K w O H' t x → E cls (some dd) H'
def PoFn (K : PySem.W.Frag) (w : World) (mg : Str → Option Value) (k : Bool) (O : List Addr) (H : Hp) (r : PR T) (Q : VK) (E : XK) : Prop := match r with
  | .ok t => match k with
    | false => ∀ x H', Same H H' → Rep K w O H' t x → Q x H'
    | true => ∀ p H', Same H H' → H p = none → Own K w (p :: O) H' t p → Q (.ref p) H'
  | .ex n t => Rz K w mg O H E n t
  | .bad => False
/-- a def that changes nothing; k: its value is new -/
def spP (K : PySem.W.Frag) (w : World) (mg : Str → Option Value) (k : Bool) (m : List T → PR T) : Sp := fun vs H Q E => ∃ O ts, (∀ a ∈ O, H a ≠ none) ∧ Reps K w O H ts vs ∧ PoFn K w mg k O H (m ts) Q E
def PoIo (K : PySem.W.Frag) (w : World) (k : Bool) (O : List Addr) (H : Hp) (g : Addr) (r : PR (T × T)) (Q : VK) : Prop := match r with
  | .ok t => ∀ x H', (∀ p o, H p = some o → p ≠ g → H' p = some o) → (match k with
      | false => Rep K w O H' t.1 x ∧ Own K w O H' t.2 g
      | true => ∃ p, x = .ref p ∧ H p = none ∧ Own K w (p :: O) H' t.1 p ∧ Own K w (p :: O) H' t.2 g) → Q x H'
  | _ => False
/-- a def that changes its first argument -/
def spI (K : PySem.W.Frag) (w : World) (k : Bool) (m : T → List T → PR (T × T)) : Sp := fun vs H Q _ => ∃ O g t0 ts vr, (∀ a ∈ O, H a ≠ none) ∧ g ∈ O ∧ vs = .ref g :: vr ∧ Own K w O H t0 g ∧ Reps K w O H ts vr ∧ PoIo K w k O H g (m t0 ts) Q
/-- what a body may let out -/
structure Lets (X : Cx) (c : C) (W : WX) : Prop where
  tk : Takes X W
  go : ∀ n t, c.WT n t → ∀ cls dd σ H' x, X.mg n = some cls → (∀ p o, c.H0 p = some o → c.g ≠ some p → H' p = some o) → H' dd = some (.xd [("value", x)]) → Rep c.K c.w c.OO H' t x → W cls (some dd) σ H'
theorem lets0 {X : Cx} {c : C} : Lets X c.nox (fun _ _ _ _ => False) := ⟨takes0, fun _ _ h => h.elim⟩
/-- a def of the module, as it stands -/
def HasDef (K : PySem.W.Frag) (mg : Str → Option Value) (x : Str) (st : Stmt) (ps : List Str) : Prop := ∃ f fd, Fun K x x st f fd ∧ mg x = some (.ref f) ∧ Binds K fd ps []
/-- .. with what it promises -/
def Fn (P : Program) (w : World) (K : PySem.W.Frag) (mg : Str → Option Value) (base : Heap) (j : Nat) (x : Str) (st : Stmt) (ps : List Str) (sp : Sp) : Prop :=
  ∃ f fd, FnOkG P w K mg base (L2.CX P w) j f fd ps sp ∧ Fun K x x st f fd ∧ mg x = some (.ref f) ∧ Binds K fd ps []
/-- the slots at the entry -/
def ini (N : Nat) (ts : List T) : SE := ts.map (Sl.gd .old) ++ List.replicate (N - ts.length) .un
def outP (k : Bool) (r : SO) : PR T := match r with
  | .rt k' t _ => if k && !k' then .bad else .ok t
  | .nx _ => if k then .bad else .ok .non
  | .ex e t => .ex e t
  | _ => .bad
def runP (k : Bool) (N n : Nat) (g : SE → SO) : List T → PR T := fun ts => if ts.length = n then outP k (g (ini N ts)) else .bad
section
variable {P : Program} {w : World} {K : PySem.W.Frag} {mg : Str → Option Value} {base : Heap}
theorem ini_re {c : C} {H : Hp} {N : Nat} {ts : List T} {vs : List V} {O : List Addr} (hc : c.H0 = H) (hg : c.g = none) (hO : c.OO = O) (tr : ∀ a ∈ O, H a ≠ none) (r : Reps c.K c.w O H ts vs) : RE c O H (vs.map some ++ List.replicate (N - vs.length) none) (ini N ts) where
  len := by simp [ini, r.len]
  slots := fun i s v e1 e2 => by
    unfold ini at e1
    by_cases hi : i < ts.length
    · rw [List.getElem?_append_left (by simpa using hi), List.getElem?_map] at e1
      rw [List.getElem?_append_left (by simpa [← r.len] using hi), List.getElem?_map] at e2
      cases q : ts[i]? with
      | none => rw [q] at e1; cases e1
      | some t =>
        rw [q] at e1; cases e1
        obtain ⟨x, hx, rx⟩ := r.get q
        rw [hx] at e2; cases e2
        exact ⟨x, rfl, rx, by show Rep c.K c.w c.OO c.H0 t x; rw [hc, hO]; exact rx⟩
    · rw [List.getElem?_append_right (by simpa using hi), List.getElem?_replicate] at e1
      split at e1
      · cases e1; trivial
      · cases e1
  dist := fun i j p t u e1 e2 e3 e4 => by
    exfalso
    have no : ∀ (i : Nat) t, ¬ ((ini N ts)[i]? = some (.ow t) ∨ (ini N ts)[i]? = some (.io t)) := fun i t z => by
      unfold ini at z
      by_cases hi : i < ts.length
      · rw [List.getElem?_append_left (by simpa using hi), List.getElem?_map] at z
        cases q : ts[i]? with
        | none => rw [q] at z; rcases z with z | z <;> cases z
        | some t => rw [q] at z; rcases z with z | z <;> cases z
      · rw [List.getElem?_append_right (by simpa using hi), List.getElem?_replicate] at z
        split at z <;> rcases z with z | z <;> cases z
    exact no i t e3
  trk := tr
  frame := fun p o e _ => by rw [← hc]; exact e
  kept := fun p e => by rw [← hc]; exact e
  gtrk := fun p e => by rw [hg] at e; cases e
  outer := fun a ha => by rw [← hO]; exact ha
  otrk := fun a ha => by rw [hO] at ha; rw [hc]; exact tr a ha
  onew := fun a ha => .inl (by rw [hO]; exact ha)
/-- THE RULE of a def that changes nothing -/
theorem ok_pure {x : Str} {st : Stmt} {ps N : List Str} {j : Nat} {k : Bool} {g : SE → SO} (D : HasDef K mg x st ps) (S : FnScope N ps (defScope st))
    (hbody : ∀ (f : Addr) (cdv : Value) (A : Around) (outer : List Env) (s : Shared) (H : Hp) (E : XK) (O : List Addr) (WT : Str → T → Prop), RoomG j (A.deeper (PyProof.Rows.envOfC x (defScope st) s.heap.objs.size f cdv)) →
      Lets (cxOf (L2.CX P w) P w K mg base N x (defScope st) f cdv A outer s H E) ⟨K, w, H, none, O, WT⟩ (fun cls d _ H' => E cls d H') →
      PassesOwn (model P w) (cxOf (L2.CX P w) P w K mg base N x (defScope st) f cdv A outer s H E).A (cxOf (L2.CX P w) P w K mg base N x (defScope st) f cdv A outer s H E).env (cxOf (L2.CX P w) P w K mg base N x (defScope st) f cdv A outer s H E).xe →
      PSs (cxOf (L2.CX P w) P w K mg base N x (defScope st) f cdv A outer s H E) (defBody st) (tS ⟨K, w, H, none, O, WT⟩ g)) : Fn P w K mg base (j + 1) x st ps (spP K w mg k (runP k N.length ps.length g)) := by
  obtain ⟨f, fd, F, hm, b⟩ := D
  refine ⟨f, fd, okG F S (fun vs H Q E h => ?_) (fun cdv A outer s H vs Q E hr h => ?_), F, hm, b⟩
  · obtain ⟨O, ts, _, r, po⟩ := h
    unfold runP at po
    by_cases hl : ts.length = ps.length
    · rw [← r.len]; exact hl
    · rw [if_neg hl] at po; exact po.elim
  · obtain ⟨O, ts, tr, r, po⟩ := h
    unfold runP at po
    by_cases hl : ts.length = ps.length
    rotate_left
    · rw [if_neg hl] at po; exact po.elim
    rw [if_pos hl] at po
    refine ⟨_, hbody f cdv A outer s H E O (fun e t => ∀ cls dd H' x, mg e = some cls → (∀ p o, H p = some o → H' p = some o) → H' dd = some (.xd [("value", x)]) → Rep K w O H' t x → E cls (some dd) H') hr
      ⟨takes_of rfl rfl rfl rfl, fun e t wt cls dd σ H' x h1 h2 h3 h4 => wt cls dd H' x h1 (fun p o q => h2 p o q (fun z => nomatch z)) h3 h4⟩ (passes_of rfl), ?_⟩
    refine ⟨ini N.length ts, O, ini_re rfl rfl rfl tr r, ?_⟩
    unfold outP at po
    cases q : g (ini N.length ts) with
    | rt k' t ρ =>
      rw [q] at po
      intro x' σ' H' O' re st' v
      have sm : Same H H' := fun p o e => re.frame p o e (fun z => nomatch z)
      have ou : ∀ a ∈ O, a ∈ O' := re.outer
      cases k' with
      | false =>
        cases k with
        | true => exact po.elim
        | false => exact po x' H' sm (Rep.less v ou)
      | true =>
        obtain ⟨p, e, hp, n, h0, o⟩ := v
        subst e
        have op : Own K w (p :: O) H' t p := o.less fun b hb => by
          rcases List.mem_cons.mp hb with z | z
          · rw [z]; exact hp
          · exact ou b z
        cases k with
        | true => exact po p H' sm h0 op
        | false => exact po _ H' sm (new_rep tr h0 op)
    | nx ρ =>
      rw [q] at po
      intro σ' H' O' re st'
      have sm : Same H H' := fun p o e => re.frame p o e (fun z => nomatch z)
      cases k with
      | true => exact po.elim
      | false => exact po .non H' sm rep_non
    | ex e t =>
      rw [q] at po
      exact fun cls dd H' x h1 h2 h3 h4 => po cls dd H' x h1 h2 h3 h4
    | bk ρ => rw [q] at po; exact po.elim
    | ct ρ => rw [q] at po; exact po.elim
    | bad => rw [q] at po; exact po.elim
end

/-! ### calls -/
def pCall (m : List T → PR T) (fs : PEv → PR (List T)) : PEv → PR T := fun ρ => (fs ρ).bind m
section
variable {X : Cx} {c : C} {W : WX} {j i : Nat} {x : Str} {st : Stmt} {ps : List Str} {m : List T → PR T} {e : Expr} {es : List Expr} {fs : PEv → PR (List T)} {p pos : Pos}
theorem rd_sp {k : Bool} {O : List Addr} {H H1 : Hp} {σ : Sg} {ρ : PEv} {ts : List T} {vs : List V} {Q : VK} (L : Lets X c W) (re : PRel c O H σ ρ) (s : Same H H1) (r : Reps c.K c.w O H1 ts vs)
    (h : PoFn c.K c.w X.mg k O H1 (m ts) Q (WE W σ)) : spP c.K c.w X.mg k m vs H1 Q (WE W σ) := ⟨O, ts, (re.same s).trk, r, h⟩
theorem rz_of {O : List Addr} {H H1 : Hp} {σ : Sg} {ρ : PEv} {n : Str} {t : T} (L : Lets X c W) (re : PRel c O H σ ρ) (s : Same H H1) (h : c.WT n t) : Rz c.K c.w X.mg O H1 (WE W σ) n t := fun cls dd H' x h1 h2 h3 h4 =>
  L.go n t h cls dd σ H' x h1 (fun p o e g => h2 _ _ (s _ _ (re.fr p o e g))) h3 (h4.less re.ou)
theorem ev_call (G : Fn X.prog X.w X.K X.mg X.base j x st ps (spP X.K X.w X.mg false m)) (hr : RoomG i X.A) (hj : j ≤ i) (L : Lets X c W) (ha : PA X (e :: es) (tAs c fs)) (hg : Gl X x := by rfl) (hK : X.K = c.K := by rfl) (hw : X.w = c.w := by rfl)
    (hdb : (x == ("__debug__" : Str)) = false := by decide) (he : starEach (e :: es) X.env = (false, eval e X.env) :: starEach es X.env := by rfl) (hpl : (backTo pos (starEach es X.env)).any (·.1) = false := by rfl) : PE X (.Call (.Name x p) (e :: es) [] pos) (tP c (pCall m fs)) := by
  obtain ⟨f, fd, G, F, hm, b⟩ := G
  refine PEm (pe_callG G (hr.monoG hj) hg hm F.kp b (fun σ => passAt L.tk σ) ha hdb he hpl) fun σ H Q ⟨ρ, O, re, po⟩ => ⟨ρ, O, re, PoA.bind isP po fun ts xs H1 s1 b1 po1 => ?_⟩
  rw [hK, hw]
  refine rd_sp L re s1 b1 ?_
  cases q : m ts with
  | ok t => rw [q] at po1; exact fun v H' s b => po1 v H' (s1.trans s) b
  | ex n t => rw [q] at po1; exact rz_of L re s1 po1
  | bad => rw [q] at po1; exact po1.elim
theorem ev_callN (G : Fn X.prog X.w X.K X.mg X.base j x st ps (spP X.K X.w X.mg true m)) (hr : RoomG i X.A) (hj : j ≤ i) (L : Lets X c W) (ha : PA X (e :: es) (tAs c fs)) (hg : Gl X x := by rfl) (hK : X.K = c.K := by rfl) (hw : X.w = c.w := by rfl)
    (hdb : (x == ("__debug__" : Str)) = false := by decide) (he : starEach (e :: es) X.env = (false, eval e X.env) :: starEach es X.env := by rfl) (hpl : (backTo pos (starEach es X.env)).any (·.1) = false := by rfl) : PE X (.Call (.Name x p) (e :: es) [] pos) (tN c (pCall m fs)) := by
  obtain ⟨f, fd, G, F, hm, b⟩ := G
  refine PEm (pe_callG G (hr.monoG hj) hg hm F.kp b (fun σ => passAt L.tk σ) ha hdb he hpl) fun σ H Q ⟨ρ, O, re, po⟩ => ⟨ρ, O, re, PoA.bind isN po fun ts xs H1 s1 b1 po1 => ?_⟩
  rw [hK, hw]
  refine rd_sp L re s1 b1 ?_
  cases q : m ts with
  | ok t => rw [q] at po1; exact fun v H' s n b => po1 v H' (s1.trans s) (s1.free n) b
  | ex n t => rw [q] at po1; exact rz_of L re s1 po1
  | bad => rw [q] at po1; exact po1.elim
end
end TL

set_option Elab.async false
set_option linter.all false
set_option maxRecDepth 100000
/-! TLC: calls of built-ins, methods, in short. -/
namespace TL
open PySem PySem.Spec L2
section
variable {X : Cx} {c : C} {x : Str} {e o a b : Expr} {es : List Expr} {f fo fa fb : PEv → PR T} {fs : PEv → PR (List T)} {p p2 pos apos cpos : Pos} {id : String} {r : List V → Hp → VK → Prop} {g : List T → Option T}
theorem ev_b (hc : CallR X (.builtin id) r) (ok : CallOk c.K c.w r g) (hm : X.mg x = none) (hv : bootBuiltins x = some (.builtin id)) (ha : PA X (e :: es) (tAs c fs)) (hg : Gl X x := by rfl) (hn : x ≠ "__name__" := by decide) (hdb : (x == ("__debug__" : Str)) = false := by decide)
    (he : starEach (e :: es) X.env = (false, eval e X.env) :: starEach es X.env := by rfl) (hpl : (backTo pos (starEach es X.env)).any (·.1) = false := by rfl) : PE X (.Call (.Name x p) (e :: es) [] pos) (tP c (pF g fs)) :=
  PEm (pe_callB hc hg hm hv ha hn hdb he hpl) fun _ _ _ => rd_cb ok
theorem ev_bN (hc : CallR X (.builtin id) r) (ok : CallNew c.K c.w r g) (hm : X.mg x = none) (hv : bootBuiltins x = some (.builtin id)) (ha : PA X (e :: es) (tAs c fs)) (hg : Gl X x := by rfl) (hn : x ≠ "__name__" := by decide) (hdb : (x == ("__debug__" : Str)) = false := by decide)
    (he : starEach (e :: es) X.env = (false, eval e X.env) :: starEach es X.env := by rfl) (hpl : (backTo pos (starEach es X.env)).any (·.1) = false := by rfl) : PE X (.Call (.Name x p) (e :: es) [] pos) (tN c (pF g fs)) :=
  PEm (pe_callB hc hg hm hv ha hn hdb he hpl) fun _ _ _ => rd_cbN ok
theorem ev_t (hc : CallR X (.type id) r) (ok : CallOk c.K c.w r g) (hm : X.mg x = none) (hv : bootBuiltins x = some (.type id)) (ha : PA X (e :: es) (tAs c fs)) (hg : Gl X x := by rfl) (hn : x ≠ "__name__" := by decide) (hdb : (x == ("__debug__" : Str)) = false := by decide)
    (he : starEach (e :: es) X.env = (false, eval e X.env) :: starEach es X.env := by rfl) (hpl : (backTo pos (starEach es X.env)).any (·.1) = false := by rfl) : PE X (.Call (.Name x p) (e :: es) [] pos) (tP c (pF g fs)) :=
  PEm (pe_callTy hc hg hm hv ha hn hdb he hpl) fun _ _ _ => rd_cb ok
theorem ev_tN (hc : CallR X (.type id) r) (ok : CallNew c.K c.w r g) (hm : X.mg x = none) (hv : bootBuiltins x = some (.type id)) (ha : PA X (e :: es) (tAs c fs)) (hg : Gl X x := by rfl) (hn : x ≠ "__name__" := by decide) (hdb : (x == ("__debug__" : Str)) = false := by decide)
    (he : starEach (e :: es) X.env = (false, eval e X.env) :: starEach es X.env := by rfl) (hpl : (backTo pos (starEach es X.env)).any (·.1) = false := by rfl) : PE X (.Call (.Name x p) (e :: es) [] pos) (tN c (pF g fs)) :=
  PEm (pe_callTy hc hg hm hv ha hn hdb he hpl) fun _ _ _ => rd_cbN ok
/-- a built-in class as a value -/
theorem ev_ty {n : String} (hm : X.mg x = none) (hv : bootBuiltins x = some (.type n)) (hg : Gl X x := by rfl) (hn : x ≠ "__name__" := by decide) (hdb : (x == ("__debug__" : Str)) = false := by decide) : PE X (.Name x pos) (tP c (pC (.ty n))) :=
  ev_c (v := .ty n) (pe_bltn hg hm hv rfl hn hdb) fun _ _ => rep_ty
/-- a module's int -/
theorem ev_gi {i : Int} (hm : ∃ t, X.mg x = some (.int i t)) (hg : Gl X x := by rfl) (hdb : (x == ("__debug__" : Str)) = false := by decide) : PE X (.Name x pos) (tP c (pC (.int i))) := by
  obtain ⟨t, hm⟩ := hm
  exact ev_c (v := .int i) (pe_glob hg hm ⟨t, rfl⟩ hdb) fun _ _ => rep_int
/-- list(range(e)) -/
def pLR1 (f : PEv → PR T) : PEv → PR T := fun ρ => (f ρ).bind fun t => match t with
  | .int n => if 0 ≤ n ∧ n ≤ 16777216 then .ok (.lst (rngT 0 n.toNat)) else .bad
  | _ => .bad
theorem reps_rng {K : PySem.W.Frag} {w : World} {O : List Addr} {H : Hp} (a : Int) (b : Int) : Reps K w O H (rngT a (b - a).toNat) (rgV a b) := by
  unfold rngT rgV
  have go : ∀ l : List Nat, Reps K w O H (l.map fun (i : Nat) => T.int (a + (i : Int))) (l.map fun (i : Nat) => V.int (a + (i : Int))) := by
    intro l
    induction l with
    | nil => exact Reps.nil
    | cons i l ih => exact Reps.cons rep_int ih
  exact go _
theorem ev_lr1 (hc : X.calm = true) (hm : X.mg "list" = none) (hmr : X.mg "range" = none) (ha : PE X a (tP c f)) (hg : Gl X "list" := by rfl) (hgr : Gl X "range" := by rfl) (na : starEach [.Call (.Name "range" p2) [a] [] pos] X.env = (false, eval (.Call (.Name "range" p2) [a] [] pos) X.env) :: starEach [] X.env := by rfl)
    (nb : starEach [a] X.env = (false, eval a X.env) :: starEach [] X.env := by rfl) : PE X (.Call (.Name "list" p) [.Call (.Name "range" p2) [a] [] pos] [] cpos) (tN c (pLR1 f)) :=
  PEm (pe_listRg hc hg hm (prg_1 hgr hmr ha nb) na) fun σ H Q ⟨ρ, O, re, po⟩ => ⟨ρ, O, re, by
    unfold pLR1 at po
    refine PoP.bind isN po fun t x H1 s1 b1 po1 => ?_
    cases t with
    | int n =>
      refine ⟨n, of_int b1, ?_⟩
      by_cases hz : 0 ≤ n ∧ n ≤ 16777216
      · simp only [hz, and_self, if_true] at po1
        refine ⟨RgOk.of_le (Int.le_refl 0) hz.2 (by omega) hz.1, fun q n' => ?_⟩
        have e : rngT 0 n.toNat = rngT 0 (n - 0).toNat := by rw [Int.sub_zero]
        rw [e] at po1
        exact po1 q _ (s1.trans (same_upd n')) (s1.free n') (own_lst n' (reps_rng 0 n))
      · simp only [hz, if_false] at po1; exact po1.elim
    | _ => exact po1.elim⟩
/-! ### methods -/
def MetOk (K : PySem.W.Frag) (w : World) (r : V → List V → Hp → VK → Prop) (g : T → List T → Option T) : Prop := ∀ (O : List Addr) (H : Hp) (t : T) (ts : List T) (z : T) (x : V) (xs : List V) (Q : VK), (∀ a ∈ O, H a ≠ none) →
  Rep K w O H t x → Reps K w O H ts xs → g t ts = some z → (∀ v H', Same H H' → Rep K w O H' z v → Q v H') → r x xs H Q
def T.ls : T → Option (List T)
  | .lst ts => some ts
  | .scr ts => some ts
  | _ => none
theorem Rep.ls {K : PySem.W.Frag} {w : World} {O : List Addr} {H : Hp} {t : T} {v : V} {us : List T} (h : Rep K w O H t v) (e : t.ls = some us) : ∃ q vs, v = .ref q ∧ SqL K H q vs ∧ Reps K w O H us vs := by
  cases t with
  | lst ts => cases e; obtain ⟨q, ws, e3, _, hq, r⟩ := of_lst h; exact ⟨q, ws, e3, SqL.of hq, r⟩
  | scr ts => cases e; obtain ⟨q, ws, e3, hq, r⟩ := of_scr h; exact ⟨q, ws, e3, hq.sq, r⟩
  | _ => cases e
/-- a method of lists: the list first, then the arguments -/
def pLm (g : List T → List T → Option T) (fo : PEv → PR T) (fs : PEv → PR (List T)) : PEv → PR T := fun ρ => (fo ρ).bind fun t => match t.ls with
  | some us => (fs ρ).bind fun ts => PR.of (g us ts)
  | none => .bad
def MetL (K : PySem.W.Frag) (w : World) (r : V → List V → Hp → VK → Prop) (g : List T → List T → Option T) : Prop := ∀ (O : List Addr) (H : Hp) (us ts : List T) (z : T) (q : Addr) (vs xs : List V) (Q : VK), (∀ a ∈ O, H a ≠ none) →
  SqL K H q vs → Reps K w O H us vs → Reps K w O H ts xs → g us ts = some z → (∀ v H', Same H H' → Rep K w O H' z v → Q v H') → r (.ref q) xs H Q
theorem rd_lm {r : V → List V → Hp → VK → Prop} {g : List T → List T → Option T} {K : PySem.W.Frag} (hK : K = c.K) (ok : MetL c.K c.w r g) {σ : Sg} {H : Hp} {Q : VK} (h : tP c (pLm g fo fs) σ H Q) : tBM K "list" r (tP c fo) (tAs c fs) σ H Q := by
  obtain ⟨ρ, O, re, po⟩ := h
  unfold pLm at po
  refine ⟨ρ, O, re, PoP.bind isP po fun t x H1 s1 b1 po1 => ?_⟩
  cases hi : t.ls with
  | none => rw [hi] at po1; exact po1.elim
  | some us =>
    rw [hi] at po1
    obtain ⟨q, vs, e, hs, r1⟩ := b1.ls hi
    refine ⟨by rw [e]; exact .inl ⟨rfl, vs, by rw [hK]; exact hs⟩, ρ, O, re.same s1, PoA.bind isP po1 fun ts xs H2 s2 b2 po2 => ?_⟩
    cases qq : g us ts with
    | none => rw [qq] at po2; exact po2.elim
    | some z =>
      rw [qq] at po2
      rw [e]
      exact ok O H2 us ts z q vs xs Q (re.same (s1.trans s2)).trk (s2.seq hs) (r1.same s2) b2 qq fun v H' s b => po2 v H' ((s1.trans s2).trans s) b
/-- xs.index(y), flat -/
def idxT (y : V) : List V → Option Nat
  | [] => none
  | x :: xs => if eqV x y then some 0 else (idxT y xs).map (· + 1)
theorem idxT_ok {y : V} : ∀ {xs : List V} {j : Nat}, idxT y xs = some j → (∃ z, xs[j]? = some z ∧ eqV z y = true) ∧ ∀ (m : Nat) (z' : V), m < j → xs[m]? = some z' → eqV z' y = false
  | [], j, h => by cases h
  | x :: xs, j, h => by
    unfold idxT at h
    by_cases e : eqV x y = true
    · rw [if_pos e] at h; cases h
      exact ⟨⟨x, rfl, e⟩, fun m z' hm => absurd hm (Nat.not_lt_zero m)⟩
    · rw [if_neg e] at h
      cases q : idxT y xs with
      | none => rw [q] at h; cases h
      | some i =>
        rw [q] at h
        have hj : i + 1 = j := Option.some.inj h
        subst hj
        obtain ⟨⟨z, h1, h2⟩, h3⟩ := idxT_ok q
        refine ⟨⟨z, by simpa using h1, h2⟩, fun m z' hm hz => ?_⟩
        cases m with
        | zero =>
          have : x = z' := by simpa using hz
          rw [← this]; simpa using e
        | succ m => exact h3 m z' (by omega) (by simpa using hz)
def gIndex (us ts : List T) : Option T := match ts with
  | [y] => if y.isFlat && us.all T.isFlat then (idxT y.fv (us.map T.fv)).map fun j => .int j else none
  | _ => none
theorem ok_index {K : PySem.W.Frag} {w : World} : MetL K w (rIndex K) gIndex := by
  intro O H us ts z q vs xs Q tr hs r1 r2 e po
  unfold gIndex at e
  split at e
  · rename_i y
    split at e
    · rename_i hf
      rw [Bool.and_eq_true] at hf
      obtain ⟨x, ex, b⟩ := Reps.one (ts := []) r2
      obtain ⟨h3, h4⟩ := r1.fv hf.2
      have h5 := b.fv hf.1
      cases qj : idxT y.fv (us.map T.fv) with
      | none => rw [qj] at e; cases e
      | some j =>
        rw [qj] at e; cases e
        obtain ⟨⟨zz, g1, g2⟩, g3⟩ := idxT_ok qj
        refine ⟨q, vs, x, j, zz, rfl, ex, hs, by rw [h5]; exact T.fvFlat hf.1, h4, by rw [h3]; exact g1, by rw [h5]; exact g2, fun m z' hm hz => ?_, po _ H (Same.refl H) rep_int⟩
        rw [h5]
        exact g3 m z' hm (by rw [← h3]; exact hz)
    · cases e
  · cases e
def gCount (us ts : List T) : Option T := match ts with
  | [.int k] => (T.ints us).map fun ns => .int (ns.count k : Nat)
  | _ => none
theorem ok_count {K : PySem.W.Frag} {w : World} : MetL K w (rCntI K) gCount := by
  intro O H us ts z q vs xs Q tr hs r1 r2 e po
  unfold gCount at e
  split at e
  · rename_i k
    obtain ⟨x, ex, b⟩ := Reps.one (ts := []) r2
    cases qn : T.ints us with
    | none => rw [qn] at e; cases e
    | some ns =>
      rw [qn] at e; cases e
      have := r1.ints qn
      subst this
      exact ⟨q, ns, k, rfl, by rw [ex, of_int b], hs, po _ H (Same.refl H) rep_int⟩
  · cases e
/-- n.bit_length() -/
def gBits : T → Option T
  | .int i => some (.int (Builtin.Int.intBits i))
  | _ => none
end
end TL

set_option Elab.async false
set_option linter.all false
set_option maxRecDepth 100000
/-! TLD: expressions that change something. -/
namespace TL
open PySem PySem.Spec L2

section
variable {X : Cx} {c : C} {k : Bool} {O O' : List Addr} {H H' : Hp} {σ σ' : Sg} {ρ ρ' : SE} {e o a b d : Expr} {es rest : List Expr} {pos : Pos} {f fa fb fo fe : SE → R T} {ft f1 f2 : SE → R Bool} {fs : SE → R (List T)}
theorem Step.th {O1 O2 : List Addr} {H1 H2 : Hp} {ρ1 ρ2 : SE} (re : RE c O H σ ρ) (a : Step O H σ ρ O1 H1 σ ρ1) (b : Step O1 H1 σ ρ1 O2 H2 σ ρ2) : Step O H σ ρ O2 H2 σ ρ2 := a.trans b re.trk
theorem Step.dropE {p : Addr} (tr : ∀ p ∈ O, H p ≠ none) (s : Step O H σ ρ O' H' σ' ρ') (fr : Ow σ ρ p ∨ H p = none) : Step O H σ ρ (O'.filter fun a => decide (a ≠ p)) H' σ' ρ' :=
  ⟨s.keep, s.own, fun a ha => s.sub a (List.mem_filter.mp ha).1, fun a ha na => List.mem_filter.mpr ⟨s.hold a ha na, decide_eq_true fun q => by
    subst q
    rcases fr with y | y
    · exact na y
    · exact tr a ha y⟩, s.mono⟩
theorem Val.frz {t : T} {x : V} (r : RE c O' H' σ ρ') (v : Val c k O' H' σ ρ' t x) (tr : ∀ p ∈ O, H p ≠ none) (s : Step O H σ ρ O' H' σ ρ') (fr : k = true → ∀ p, x = .ref p → Ow σ ρ p ∨ H p = none) :
    ∃ O2, RE c O2 H' σ ρ' ∧ Rep c.K c.w O2 H' t x ∧ Step O H σ ρ O2 H' σ ρ' := by
  cases k with
  | false => exact ⟨O', r, v, s⟩
  | true =>
    obtain ⟨p, e, hp, n, h0, o⟩ := v
    refine ⟨_, r.drop n h0, ?_, s.dropE tr (fr rfl p e)⟩
    rw [e]
    exact (o.less fun b hb => (List.mem_filter.mp hb).1).rep fun z => of_decide_eq_true (List.mem_filter.mp z).2 rfl
theorem v_int {i : Int} : Val c false O H σ ρ (.int i) (.int i) := rep_int (K := c.K) (w := c.w) (O := O) (H := H)
theorem v_bl {i : Bool} : Val c false O H σ ρ (.bl i) (.bl i) := rep_bl (K := c.K) (w := c.w) (O := O) (H := H)
/-- a value that is new is a value -/
theorem rd_EN {Q : VK} (h : tE c false f σ H Q) : tE c k f σ H Q := by
  obtain ⟨ρ, O, re, po⟩ := h
  refine ⟨ρ, O, re, ?_⟩
  cases q : f ρ with
  | ok t ρ1 =>
    rw [q] at po
    intro x H1 O1 re1 s1 v fr
    obtain ⟨O2, r2, v2, st⟩ := v.frz re1 re.trk s1 fr
    exact po x H1 O2 r2 st v2 fun z => nomatch z
  | ex n t => rw [q] at po; exact po
  | bad => rw [q] at po; exact po
theorem ee_n (h : PE X e (tE c true f)) : PE X e (tE c false f) := PEm h fun _ _ _ => rd_EN

/-! ### operators -/
def eOp (g : T → T → Option T) (fa fb : SE → R T) : SE → R T := fun ρ => (fa ρ).bind fun t ρ1 => (fb ρ1).bind fun u ρ2 => R.of (g t u) ρ2
theorem rd_opE {r : R2} {g : T → T → Option T} (hr : OpOk c.K c.w r g) {Q : VK} (h : tE c false (eOp g fa fb) σ H Q) : tOp r (tE c false fa) (tE c false fb) σ H Q := by
  obtain ⟨ρ, O, re, po⟩ := h
  refine ⟨ρ, O, re, PoE.bind isE po fun t ρ1 x H1 O1 re1 s1 v1 _ po1 => ⟨ρ1, O1, re1, PoE.bind isE po1 fun u ρ2 y H2 O2 re2 s2 v2 _ po2 => ?_⟩⟩
  cases q : g t u with
  | none => rw [q] at po2; exact po2.elim
  | some z =>
    rw [q] at po2
    exact hr O2 H2 t u z x y Q re2.trk (Val.step re1 s2 v1) v2 q fun v H' s v' => po2 v H' O2 (re2.same s) ((s1.th re s2).th re (Step.same s)) v' fun z => nomatch z
theorem ee_op {op : Operator} {r : R2} {g : T → T → Option T} (ho : OpR X (binaryOp op) r) (hr : OpOk c.K c.w r g) (ha : PE X a (tE c false fa)) (hb : PE X b (tE c false fb)) : PE X (.BinOp a op b pos) (tE c false (eOp g fa fb)) :=
  PEm (pe_op ho ha hb) fun _ _ _ h => rd_opE hr h
theorem ee_opN {op : Operator} {r : R2} {g : T → T → Option T} (ho : OpR X (binaryOp op) r) (hr : OpNew c.K c.w r g) (ha : PE X a (tE c false fa)) (hb : PE X b (tE c false fb)) : PE X (.BinOp a op b pos) (tE c true (eOp g fa fb)) :=
  PEm (pe_op ho ha hb) fun σ H Q ⟨ρ, O, re, po⟩ => ⟨ρ, O, re, PoE.bind isE po fun t ρ1 x H1 O1 re1 s1 v1 _ po1 => ⟨ρ1, O1, re1, PoE.bind isE po1 fun u ρ2 y H2 O2 re2 s2 v2 _ po2 => by
    cases q : g t u with
    | none => rw [q] at po2; exact po2.elim
    | some z =>
      rw [q] at po2
      have s12 := s1.th re s2
      exact hr O2 H2 t u z x y Q re2.trk (Val.step re1 s2 v1) v2 q fun p H' s n o => po2 _ H' (p :: O2) (re2.new s n o.some) (s12.th re (Step.new s n)) ⟨p, rfl, List.mem_cons_self, re2.notOw n, re2.h0none n, o⟩ fun _ p' e => by cases e; exact s12.back (.inr n)⟩⟩
def eU (g : T → Option T) (f : SE → R T) : SE → R T := fun ρ => (f ρ).bind fun t ρ1 => R.of (g t) ρ1
theorem ee_neg (ha : PE X a (tE c false f)) : PE X (.UnaryOp .USub a pos) (tE c false (eU gNeg f)) := PEm (pe_un un_neg ha) fun σ H Q ⟨ρ, O, re, po⟩ => ⟨ρ, O, re, PoE.bind isE po fun t ρ1 x H1 O1 re1 s1 v1 _ po1 => by
  cases t with
  | int i =>
    exact ⟨i, of_int (show Rep c.K c.w O1 H1 (.int i) x from v1), po1 _ H1 O1 re1 s1 v_int fun z => nomatch z⟩
  | _ => exact po1.elim⟩
def eB (g : T → T → Option Bool) (fa fb : SE → R T) : SE → R Bool := fun ρ => (fa ρ).bind fun t ρ1 => (fb ρ1).bind fun u ρ2 => R.of (g t u) ρ2
def eOfB (f : SE → R Bool) : SE → R T := fun ρ => (f ρ).bind fun b ρ1 => .ok (.bl b) ρ1
theorem eet_cmp {op : CmpOp} {r : R2} {g : T → T → Option Bool} (ho : OpR X (compareOp op) r) (hr : BoOk c.K c.w r g) (ha : PE X a (tE c false fa)) (hb : PE X b (tE c false fb)) (hm : behindInMarks op b = false) : PT X (.Compare a [op] [b] pos) (tET c (eB g fa fb)) :=
  PTm (pt_cmpR ho ha hb hm) fun σ H Q ⟨ρ, O, re, po⟩ => ⟨ρ, O, re, PoE.bind isET po fun t ρ1 x H1 O1 re1 s1 v1 _ po1 => ⟨ρ1, O1, re1, PoE.bind isET po1 fun u ρ2 y H2 O2 re2 s2 v2 _ po2 => by
    cases q : g t u with
    | none => rw [q] at po2; exact po2.elim
    | some z =>
      rw [q] at po2
      exact hr O2 H2 t u z x y _ re2.trk (Val.step re1 s2 v1) v2 q ⟨z, rfl, po2 H2 O2 re2 (s1.th re s2)⟩⟩⟩
theorem ee_cmp {op : CmpOp} {r : R2} {g : T → T → Option Bool} (ho : OpR X (compareOp op) r) (hr : BoOk c.K c.w r g) (ha : PE X a (tE c false fa)) (hb : PE X b (tE c false fb)) (hm : behindInMarks op b = false) : PE X (.Compare a [op] [b] pos) (tE c false (eOfB (eB g fa fb))) :=
  PEm (pe_cmpR ho ha hb hm) fun σ H Q ⟨ρ, O, re, po⟩ => by
    have po' : PoE c false O H σ ρ ((fa ρ).bind fun t ρ1 => (fb ρ1).bind fun u ρ2 => (R.of (g t u) ρ2).bind fun b ρ3 => .ok (.bl b) ρ3) Q := by
      have e : eOfB (eB g fa fb) ρ = ((fa ρ).bind fun t ρ1 => (fb ρ1).bind fun u ρ2 => (R.of (g t u) ρ2).bind fun b ρ3 => .ok (.bl b) ρ3) := by
        unfold eOfB eB
        cases fa ρ with
        | ok t ρ1 => show R.bind (R.bind (fb ρ1) _) _ = R.bind (fb ρ1) _; cases fb ρ1 <;> rfl
        | ex k t => rfl
        | bad => rfl
      rw [← e]; exact po
    refine ⟨ρ, O, re, PoE.bind isE po' fun t ρ1 x H1 O1 re1 s1 v1 _ po1 => ⟨ρ1, O1, re1, PoE.bind isE po1 fun u ρ2 y H2 O2 re2 s2 v2 _ po2 => ?_⟩⟩
    cases q : g t u with
    | none => rw [q] at po2; exact po2.elim
    | some z =>
      rw [q] at po2
      exact hr O2 H2 t u z x y _ re2.trk (Val.step re1 s2 v1) v2 q (po2 _ H2 O2 re2 (s1.th re s2) v_bl fun z => nomatch z)

/-! ### tests -/
def eNot (f : SE → R Bool) : SE → R Bool := fun ρ => (f ρ).bind fun b ρ1 => .ok (!b) ρ1
def eAnd (f g : SE → R Bool) : SE → R Bool := fun ρ => (f ρ).bind fun b ρ1 => if b then g ρ1 else .ok false ρ1
def eOr (f g : SE → R Bool) : SE → R Bool := fun ρ => (f ρ).bind fun b ρ1 => if b then .ok true ρ1 else g ρ1
theorem eet_not (ha : PT X a (tET c f1)) : PT X (.UnaryOp .Not a pos) (tET c (eNot f1)) := PTm (pt_not ha) fun σ H Q ⟨ρ, O, re, po⟩ =>
  ⟨ρ, O, re, PoET.bind isET po fun t ρ1 H1 O1 re1 s1 po1 => po1 H1 O1 re1 s1⟩
theorem eew_and1 (ha : PT X a (tET c f1)) : PW X (.BoolOp .And [a] pos) (tET c f1) := pw_and1 ha
theorem eew_or1 (ha : PT X a (tET c f1)) : PW X (.BoolOp .Or [a] pos) (tET c f1) := pw_or1 ha
theorem eew_and (ha : PT X a (tET c f1)) (hb : PW X (.BoolOp .And (b :: rest) pos) (tET c f2)) : PW X (.BoolOp .And (a :: b :: rest) pos) (tET c (eAnd f1 f2)) := PWm (pw_and ha hb) fun σ H Q ⟨ρ, O, re, po⟩ =>
  ⟨ρ, O, re, PoET.bind isET po fun t ρ1 H1 O1 re1 s1 po1 => by
    cases t with
    | true => rw [if_pos rfl]; exact ⟨ρ1, O1, re1, PoET.from re.trk s1 po1⟩
    | false => rw [if_neg Bool.false_ne_true]; exact po1 H1 O1 re1 s1⟩
theorem eew_or (ha : PT X a (tET c f1)) (hb : PW X (.BoolOp .Or (b :: rest) pos) (tET c f2)) : PW X (.BoolOp .Or (a :: b :: rest) pos) (tET c (eOr f1 f2)) := PWm (pw_or ha hb) fun σ H Q ⟨ρ, O, re, po⟩ =>
  ⟨ρ, O, re, PoET.bind isET po fun t ρ1 H1 O1 re1 s1 po1 => by
    cases t with
    | true => rw [if_pos rfl]; exact po1 H1 O1 re1 s1
    | false => rw [if_neg Bool.false_ne_true]; exact ⟨ρ1, O1, re1, PoET.from re.trk s1 po1⟩⟩
/-- as values: bools alone -/
def eAsB (f : SE → R T) : SE → R Bool := fun ρ => (f ρ).bind fun t ρ1 => match t with
  | .bl b => .ok b ρ1
  | _ => .bad
def eAndV (f g : SE → R T) : SE → R T := fun ρ => (eAsB f ρ).bind fun b ρ1 => if b then g ρ1 else .ok (.bl false) ρ1
def eOrV (f g : SE → R T) : SE → R T := fun ρ => (eAsB f ρ).bind fun b ρ1 => if b then .ok (.bl true) ρ1 else g ρ1
def eNotV (f : SE → R T) : SE → R T := fun ρ => (eAsB f ρ).bind fun b ρ1 => .ok (.bl (!b)) ρ1
theorem PoE.asB {β : Type} {P : R β → Prop} (ip : IsR c P) {n : Bool → SE → R β} {Q : VK} (h : P ((eAsB f ρ).bind n))
    (q : ∀ z ρ1 H1 O1, RE c O1 H1 σ ρ1 → Step O H σ ρ O1 H1 σ ρ1 → P (n z ρ1) → Q (.bl z) H1) : PoE c false O H σ ρ (f ρ) Q := by
  unfold eAsB at h
  cases e : f ρ with
  | ok t ρ1 =>
    rw [e] at h
    cases t with
    | bl z => intro x H1 O1 re1 s v fr; rw [of_bl (show Rep c.K c.w O1 H1 (.bl z) x from v)]; exact q z ρ1 H1 O1 re1 s h
    | _ => exact (ip.bad h).elim
  | ex n t => rw [e] at h; exact ip.ex _ _ h
  | bad => rw [e] at h; exact ip.bad h
theorem ee_and (ha : PE X a (tE c false fa)) (hb : PE X (.BoolOp .And (b :: rest) pos) (tE c false fb)) : PE X (.BoolOp .And (a :: b :: rest) pos) (tE c false (eAndV fa fb)) := PEm (pe_and ha hb) fun σ H Q ⟨ρ, O, re, po⟩ =>
  ⟨ρ, O, re, PoE.asB isE po fun z ρ1 H1 O1 re1 s1 po1 => ⟨z, rfl, by
    cases z with
    | true => rw [if_pos rfl]; exact ⟨ρ1, O1, re1, PoE.from re.trk s1 po1⟩
    | false => rw [if_neg Bool.false_ne_true]; exact po1 _ H1 O1 re1 s1 v_bl fun z => nomatch z⟩⟩
theorem ee_or (ha : PE X a (tE c false fa)) (hb : PE X (.BoolOp .Or (b :: rest) pos) (tE c false fb)) : PE X (.BoolOp .Or (a :: b :: rest) pos) (tE c false (eOrV fa fb)) := PEm (pe_or ha hb) fun σ H Q ⟨ρ, O, re, po⟩ =>
  ⟨ρ, O, re, PoE.asB isE po fun z ρ1 H1 O1 re1 s1 po1 => ⟨z, rfl, by
    cases z with
    | true => rw [if_pos rfl]; exact po1 _ H1 O1 re1 s1 v_bl fun z => nomatch z
    | false => rw [if_neg Bool.false_ne_true]; exact ⟨ρ1, O1, re1, PoE.from re.trk s1 po1⟩⟩⟩
theorem ee_not (ha : PE X a (tE c false f)) : PE X (.UnaryOp .Not a pos) (tE c false (eNotV f)) := PEm (pe_not ha) fun σ H Q ⟨ρ, O, re, po⟩ =>
  ⟨ρ, O, re, PoE.asB isE po fun z ρ1 H1 O1 re1 s1 po1 => ⟨z, rfl, po1 _ H1 O1 re1 s1 v_bl fun z => nomatch z⟩⟩
def eIf {α : Type} (t : SE → R Bool) (f g : SE → R α) : SE → R α := fun ρ => (t ρ).bind fun b ρ1 => if b then f ρ1 else g ρ1
theorem ee_if (hc : PT X d (tET c f1)) (ha : PE X a (tE c k fa)) (hb : PE X b (tE c k fb)) : PE X (.IfExp d a b pos) (tE c k (eIf f1 fa fb)) := PEm (pe_ifExp hc ha hb) fun σ H Q ⟨ρ, O, re, po⟩ =>
  ⟨ρ, O, re, PoET.bind isE po fun t ρ1 H1 O1 re1 s1 po1 => by
    cases t with
    | true => rw [if_pos rfl]; exact ⟨ρ1, O1, re1, PoE.from re.trk s1 po1⟩
    | false => rw [if_neg Bool.false_ne_true]; exact ⟨ρ1, O1, re1, PoE.from re.trk s1 po1⟩⟩
/-- a value's truth -/
def T.tru : T → Option Bool
  | .non => some false
  | .bl b => some b
  | .int i => some (i != 0)
  | .lst ts => some (!ts.isEmpty)
  | .tup ts => some (!ts.isEmpty)
  | .scr ts => some (!ts.isEmpty)
  | .dct ks _ => some (!ks.isEmpty)
  | _ => none
def eTru (f : SE → R T) : SE → R Bool := fun ρ => (f ρ).bind fun t ρ1 => R.of t.tru ρ1
theorem eet_tru (ha : PE X a (tE c false fa)) (he : ∀ whole, isTrue a X.env whole = (do let v ← whole; standAt a.pos; holding [v] (truthy v)) := by intro _; rfl) (hK : X.K = c.K := by rfl) : PT X a (tET c (eTru fa)) :=
  PTm (pt_truth ha he) fun σ H Q ⟨ρ, O, re, po⟩ => ⟨ρ, O, re, PoE.bind isET po fun t ρ1 x H1 O1 re1 s1 b1 po1 => by
    have b1 : Rep c.K c.w O1 H1 t x := b1
    intro po1
    cases t with
    | non => exact ⟨false, by rw [of_non b1]; rfl, po1 H1 O1 re1 s1⟩
    | bl z => exact ⟨z, by rw [of_bl b1]; rfl, po1 H1 O1 re1 s1⟩
    | int z => exact ⟨_, by rw [of_int b1]; rfl, po1 H1 O1 re1 s1⟩
    | str z => exact po1.elim
    | fn z => exact po1.elim
    | set z => exact po1.elim
    | ty z => exact po1.elim
    | lst ts =>
      obtain ⟨p, vs, e, _, hp, r⟩ := of_lst b1
      exact ⟨_, by rw [e]; exact .inl ⟨vs, SqL.of hp, rfl⟩, by rw [← r.isEmpty]; exact po1 H1 O1 re1 s1⟩
    | tup ts =>
      obtain ⟨p, vs, e, hp, r⟩ := of_tup b1
      exact ⟨_, by rw [e, hK]; exact .inr (.inl ⟨vs, hp.sq, rfl⟩), by rw [← r.isEmpty]; exact po1 H1 O1 re1 s1⟩
    | scr ts =>
      obtain ⟨p, vs, e, hp, r⟩ := of_scr b1
      exact ⟨_, by rw [e, hK]; exact .inl ⟨vs, hp.sq, rfl⟩, by rw [← r.isEmpty]; exact po1 H1 O1 re1 s1⟩
    | dct ks ts =>
      obtain ⟨p, kvs, e, _, hp, hk, r⟩ := of_dct b1
      refine ⟨!kvs.isEmpty, by rw [e]; exact .inr (.inr ⟨kvs, hp, rfl⟩), ?_⟩
      have z : kvs.isEmpty = ks.isEmpty := by subst hk; cases kvs <;> rfl
      rw [z]; exact po1 H1 O1 re1 s1⟩

/-! ### arguments, displays, built-in calls -/
def eNil : SE → R (List T) := fun ρ => .ok [] ρ
def eCons (f : SE → R T) (g : SE → R (List T)) : SE → R (List T) := fun ρ => (f ρ).bind fun t ρ1 => (g ρ1).bind fun ts ρ2 => .ok (t :: ts) ρ2
theorem eea_nil : PA X [] (tEA c eNil) := PAm pa_nil fun σ H Q ⟨ρ, O, re, po⟩ => po [] H O re Step.refl Reps.nil
theorem eea_cons (ha : PE X e (tE c false f)) (hr : PA X es (tEA c fs)) (hs : starEach (e :: es) X.env = (false, eval e X.env) :: starEach es X.env := by rfl) : PA X (e :: es) (tEA c (eCons f fs)) :=
  PAm (pa_cons ha hr hs) fun σ H Q ⟨ρ, O, re, po⟩ => ⟨ρ, O, re, PoE.bind isEA po fun t ρ1 x H1 O1 re1 s1 v1 _ po1 => ⟨ρ1, O1, re1, PoEA.bind isEA po1 fun ts ρ2 xs H2 O2 re2 s2 b2 po2 =>
    po2 (x :: xs) H2 O2 re2 (s1.th re s2) (Reps.cons (Val.step re1 s2 v1) b2)⟩⟩
def eLst (fs : SE → R (List T)) : SE → R T := fun ρ => (fs ρ).bind fun ts ρ1 => if small ts then .ok (.lst ts) ρ1 else .bad
def eTup (fs : SE → R (List T)) : SE → R T := fun ρ => (fs ρ).bind fun ts ρ1 => if small ts then .ok (.tup ts) ρ1 else .bad
theorem ee_lst (h : PA X es (tEA c fs)) : PE X (.List es pos) (tE c true (eLst fs)) := PEm (pe_lst h) fun σ H Q ⟨ρ, O, re, po⟩ => ⟨ρ, O, re, PoEA.bind isE po fun ts ρ1 xs H1 O1 re1 s1 b1 po1 => by
  by_cases z : small ts = true
  · rw [if_pos z] at po1
    refine ⟨by rw [← b1.len]; exact small_ok z, fun p n => ?_⟩
    have ow := own_lst n b1
    exact po1 _ _ (p :: O1) (re1.new (same_upd n) n ow.some) (s1.th re (Step.new (same_upd n) n)) ⟨p, rfl, List.mem_cons_self, re1.notOw n, re1.h0none n, ow⟩ fun _ p' e => by cases e; exact s1.back (.inr n)
  · rw [if_neg z] at po1; exact po1.elim⟩
theorem ee_tup {kk} (h : PA X es (tEA c fs)) : PE X (.Tuple es kk pos) (tE c false (eTup fs)) := PEm (pe_tup h) fun σ H Q ⟨ρ, O, re, po⟩ => ⟨ρ, O, re, PoEA.bind isE po fun ts ρ1 xs H1 O1 re1 s1 b1 po1 => by
  by_cases z : small ts = true
  · rw [if_pos z] at po1
    exact ⟨by rw [← b1.len]; exact small_ok z, fun p n => po1 _ _ O1 (re1.same (same_upd n)) (s1.th re (Step.same (same_upd n))) (rep_tup re1.trk n b1) fun z => nomatch z⟩
  · rw [if_neg z] at po1; exact po1.elim⟩
def eF (g : List T → Option T) (fs : SE → R (List T)) : SE → R T := fun ρ => (fs ρ).bind fun ts ρ1 => R.of (g ts) ρ1
theorem rd_cbE {r : List V → Hp → VK → Prop} {g : List T → Option T} (hr : CallOk c.K c.w r g) {Q : VK} (h : tE c false (eF g fs) σ H Q) : tCB r (tEA c fs) σ H Q := by
  obtain ⟨ρ, O, re, po⟩ := h
  refine ⟨ρ, O, re, PoEA.bind isE po fun ts ρ1 xs H1 O1 re1 s1 b1 po1 => ?_⟩
  cases q : g ts with
  | none => rw [q] at po1; exact po1.elim
  | some z => rw [q] at po1; exact hr O1 H1 ts z xs Q re1.trk b1 q fun v H' s b => po1 v H' O1 (re1.same s) (s1.th re (Step.same s)) b fun z => nomatch z
theorem rd_cbEN {r : List V → Hp → VK → Prop} {g : List T → Option T} (hr : CallNew c.K c.w r g) {Q : VK} (h : tE c true (eF g fs) σ H Q) : tCB r (tEA c fs) σ H Q := by
  obtain ⟨ρ, O, re, po⟩ := h
  refine ⟨ρ, O, re, PoEA.bind isE po fun ts ρ1 xs H1 O1 re1 s1 b1 po1 => ?_⟩
  cases q : g ts with
  | none => rw [q] at po1; exact po1.elim
  | some z => rw [q] at po1; exact hr O1 H1 ts z xs Q re1.trk b1 q fun p H' s n o => po1 _ H' (p :: O1) (re1.new s n o.some) (s1.th re (Step.new s n)) ⟨p, rfl, List.mem_cons_self, re1.notOw n, re1.h0none n, o⟩ fun _ p' e => by cases e; exact s1.back (.inr n)
variable {x : Str} {id : String} {r : List V → Hp → VK → Prop} {g : List T → Option T} {p apos cpos : Pos}
theorem ee_b (hc : CallR X (.builtin id) r) (ok : CallOk c.K c.w r g) (hm : X.mg x = none) (hv : bootBuiltins x = some (.builtin id)) (ha : PA X (e :: es) (tEA c fs)) (hg : Gl X x := by rfl) (hn : x ≠ "__name__" := by decide) (hdb : (x == ("__debug__" : Str)) = false := by decide)
    (he : starEach (e :: es) X.env = (false, eval e X.env) :: starEach es X.env := by rfl) (hpl : (backTo pos (starEach es X.env)).any (·.1) = false := by rfl) : PE X (.Call (.Name x p) (e :: es) [] pos) (tE c false (eF g fs)) :=
  PEm (pe_callB hc hg hm hv ha hn hdb he hpl) fun _ _ _ => rd_cbE ok
theorem ee_bN (hc : CallR X (.builtin id) r) (ok : CallNew c.K c.w r g) (hm : X.mg x = none) (hv : bootBuiltins x = some (.builtin id)) (ha : PA X (e :: es) (tEA c fs)) (hg : Gl X x := by rfl) (hn : x ≠ "__name__" := by decide) (hdb : (x == ("__debug__" : Str)) = false := by decide)
    (he : starEach (e :: es) X.env = (false, eval e X.env) :: starEach es X.env := by rfl) (hpl : (backTo pos (starEach es X.env)).any (·.1) = false := by rfl) : PE X (.Call (.Name x p) (e :: es) [] pos) (tE c true (eF g fs)) :=
  PEm (pe_callB hc hg hm hv ha hn hdb he hpl) fun _ _ _ => rd_cbEN ok
theorem ee_t (hc : CallR X (.type id) r) (ok : CallOk c.K c.w r g) (hm : X.mg x = none) (hv : bootBuiltins x = some (.type id)) (ha : PA X (e :: es) (tEA c fs)) (hg : Gl X x := by rfl) (hn : x ≠ "__name__" := by decide) (hdb : (x == ("__debug__" : Str)) = false := by decide)
    (he : starEach (e :: es) X.env = (false, eval e X.env) :: starEach es X.env := by rfl) (hpl : (backTo pos (starEach es X.env)).any (·.1) = false := by rfl) : PE X (.Call (.Name x p) (e :: es) [] pos) (tE c false (eF g fs)) :=
  PEm (pe_callTy hc hg hm hv ha hn hdb he hpl) fun _ _ _ => rd_cbE ok
theorem ee_tN (hc : CallR X (.type id) r) (ok : CallNew c.K c.w r g) (hm : X.mg x = none) (hv : bootBuiltins x = some (.type id)) (ha : PA X (e :: es) (tEA c fs)) (hg : Gl X x := by rfl) (hn : x ≠ "__name__" := by decide) (hdb : (x == ("__debug__" : Str)) = false := by decide)
    (he : starEach (e :: es) X.env = (false, eval e X.env) :: starEach es X.env := by rfl) (hpl : (backTo pos (starEach es X.env)).any (·.1) = false := by rfl) : PE X (.Call (.Name x p) (e :: es) [] pos) (tE c true (eF g fs)) :=
  PEm (pe_callTy hc hg hm hv ha hn hdb he hpl) fun _ _ _ => rd_cbEN ok

/-! ### subscripts -/
theorem ee_ix (ha : PE X a (tE c false fa)) (hb : PE X b (tE c false fb)) (hs : PlainIx b := by exact fun _ _ => rfl) (hK : X.K = c.K := by rfl) : PE X (.Subscript a b pos) (tE c false (eOp gIx fa fb)) :=
  PEm (pe_ix ix_seq ha hb hs) fun _ _ _ h => by rw [hK]; exact rd_opE ok_ix h
/-- of a name that is one's own: a flat item -/
def eIxO (j : Nat) (fb : SE → R T) : SE → R T := fun ρ => match ownAt ρ j with
  | some (.lst _) => (fb ρ).bind fun u ρ1 => match ownAt ρ1 j, u with
    | some (.lst ts), .int i => match L2.atI ts i with
      | some t => .ok t ρ1
      | none => .bad
    | _, _ => .bad
  | _ => .bad
theorem ee_ixO {j : Nat} (ha : PE X a (tVar j)) (hb : PE X b (tE c false fb)) (hs : PlainIx b := by exact fun _ _ => rfl) : PE X (.Subscript a b pos) (tE c false (eIxO j fb)) :=
  PEm (pe_ix ix_seq ha hb hs) fun σ H Q ⟨ρ, O, re, po⟩ => by
    unfold eIxO at po
    split at po
    · rename_i ts0 e0
      obtain ⟨q, s0, ea, _, _, ⟨vs0, h0, r0⟩, _⟩ := own_at re e0
      refine ⟨.ref q, ea, ρ, O, re, PoE.bind isE po fun u ρ1 y H1 O1 re1 s1 v1 _ po1 => ?_⟩
      split at po1
      · rename_i ts i eo
        obtain ⟨q', s, ea', _, _, ⟨vs, hvs, rv⟩, hm⟩ := own_at re1 eo
        rw [ea] at ea'; cases ea'
        cases hat : L2.atI ts i with
        | none => rw [hat] at po1; exact po1.elim
        | some t =>
          rw [hat] at po1
          obtain ⟨v, hv, rv'⟩ := rv.atI hat
          exact .inl ⟨q, vs, i, v, rfl, of_int (show Rep c.K c.w O1 H1 (.int i) y from v1), SqL.of hvs, hv, po1 v H1 O1 re1 s1 rv' fun z => nomatch z⟩
      · exact po1.elim
    · exact po.elim
end
end TL

set_option Elab.async false
set_option linter.all false
set_option maxRecDepth 100000
/-! TLE: calls that change their first argument; slots given up; iterables and comprehensions that change something. -/
namespace TL
open PySem PySem.Spec L2

section
variable {X : Cx} {c : C} {k : Bool} {O O' : List Addr} {H H' : Hp} {σ σ' : Sg} {ρ ρ' : SE} {e o a b d : Expr} {es rest : List Expr} {p pos : Pos} {f fa fb fo fe : SE → R T} {ft f1 f2 : SE → R Bool} {fs : SE → R (List T)}

/-! ### a change at one slot's object, by whatever -/
theorem RE.chg {j : Nat} {t t' : T} {s : Sl} {a : Addr} (r : RE c O H σ ρ) (e1 : σ[j]? = some (some (.ref a))) (e2 : ρ[j]? = some s) (e3 : s.own = some t)
    (hk : ∀ p o, H p = some o → p ≠ a → H' p = some o) (hn : ∀ x ∈ O', x ∈ O ∨ H x = none) (hs : ∀ x ∈ O, x ∈ O') (ht : ∀ x ∈ O', H' x ≠ none) (ho : Own c.K c.w O' H' t' a) :
    RE c O' H' σ (ρ.set j (s.like t')) ∧ Step O H σ ρ O' H' σ (ρ.set j (s.like t')) ∧ ∀ p, Ow σ (ρ.set j (s.like t')) p → Ow σ ρ p := by
  have hj : j < ρ.length := (List.getElem?_eq_some_iff.mp e2).1
  have hso : ρ[j]? = some (.ow t) ∨ ρ[j]? = some (.io t) := by
    cases s with
    | ow u => cases e3; exact .inl e2
    | io u => cases e3; exact .inr e2
    | un => cases e3
    | fz u => cases e3
    | gd g u => cases e3
  have haO : a ∈ O := r.own_in ⟨j, t, e1, hso⟩
  have ca : Car O H O' H' := fun p o e n => ⟨hk p o e fun z => n (z ▸ haO), fun z => by
    rcases hn p z with z | z
    · exact n z
    · rw [e] at z; cases z⟩
  have ne : ∀ (i : Nat) p u, i ≠ j → σ[i]? = some (some (.ref p)) → (ρ[i]? = some (.ow u) ∨ ρ[i]? = some (.io u)) → p ≠ a := fun i p u hi h1 h2 z => hi (r.dist i j a u t (by rw [h1, z]) e1 h2 hso)
  have own_iff : ∀ p, Ow σ (ρ.set j (s.like t')) p → Ow σ ρ p := fun p ⟨i, u, h1, h2⟩ => by
    by_cases hi : i = j
    · subst hi
      rw [e1] at h1; cases h1
      exact ⟨i, t, e1, hso⟩
    · rw [List.getElem?_set_ne (Ne.symm hi)] at h2
      exact ⟨i, u, h1, h2⟩
  have mono : ∀ p, H p ≠ none → H' p ≠ none := fun p e => by
    by_cases h : p = a
    · subst h; exact ho.some
    · cases q : H p with
      | none => exact absurd q e
      | some o => rw [hk p o q h]; exact fun z => nomatch z
  refine ⟨⟨by rw [List.length_set]; exact r.len, fun i s2 v h1 h2 => ?_, fun i l p u u' h1 h2 h3 h4 => ?_, ht, fun p o e n => ?_, fun p e => mono p (r.kept p e), r.gtrk, fun x hx => hs _ (r.outer x hx), r.otrk, fun x hx => (hn x hx).elim (r.onew x) fun z => .inr (r.h0none z)⟩,
    ⟨fun p o e n => hk p o e fun q => n (by rw [q]; exact ⟨j, t, e1, hso⟩), fun p z => .inl (own_iff p z), fun x hx => hn x hx, fun x hx _ => hs x hx, mono⟩, own_iff⟩
  · by_cases hi : j = i
    · subst hi
      rw [List.getElem?_set_self hj] at h1
      cases h1
      rw [e1] at h2; cases h2
      have z := r.slots j s _ e2 e1
      cases s with
      | ow u => obtain ⟨a', e', m, h0, _⟩ := z; cases e'; exact ⟨a, rfl, hs _ m, h0, ho⟩
      | io u => obtain ⟨a', e', m, h0, _⟩ := z; cases e'; exact ⟨a, rfl, hs _ m, h0, ho⟩
      | un => cases e3
      | fz u => cases e3
      | gd g u => cases e3
    · rw [List.getElem?_set_ne hi] at h1
      have z := r.slots i s2 v h1 h2
      cases s2 with
      | un => trivial
      | fz u => obtain ⟨x, e, h⟩ := z; exact ⟨x, e, h.car ca⟩
      | gd g u => obtain ⟨x, e, h, y⟩ := z; exact ⟨x, e, h.car ca, y.car ca h⟩
      | ow u =>
        obtain ⟨x, e, m, h0, h⟩ := z
        exact ⟨x, e, hs _ m, h0, h.car ca fun o q => hk x o q (ne i x u (Ne.symm hi) (by rw [h2, e]) (.inl h1))⟩
      | io u =>
        obtain ⟨x, e, m, h0, h⟩ := z
        exact ⟨x, e, hs _ m, h0, h.car ca fun o q => hk x o q (ne i x u (Ne.symm hi) (by rw [h2, e]) (.inr h1))⟩
  · have cv : ∀ (i : Nat) u, ((ρ.set j (s.like t'))[i]? = some (.ow u) ∨ (ρ.set j (s.like t'))[i]? = some (.io u)) → ∃ u, ρ[i]? = some (.ow u) ∨ ρ[i]? = some (.io u) := fun i u h => by
      by_cases hi : j = i
      · subst hi; exact ⟨t, hso⟩
      · rw [List.getElem?_set_ne hi] at h; exact ⟨u, h⟩
    obtain ⟨w1, q1⟩ := cv i u h3
    obtain ⟨w2, q2⟩ := cv l u' h4
    exact r.dist i l p w1 w2 h1 h2 q1 q2
  · have h : p ≠ a := fun q => by
      subst q
      have sr := r.slots j s _ e2 e1
      cases s with
      | ow u => obtain ⟨a', e', m, h0, _⟩ := sr; cases e'; rw [h0] at e; cases e
      | io u => obtain ⟨a', e', m, h0, _⟩ := sr; cases e'; exact n h0
      | un => cases e3
      | fz u => cases e3
      | gd g u => cases e3
    exact hk p o (r.frame p o e n) h
/-- .. by the slot -/
theorem chg_at {j : Nat} {t t' : T} {a : Addr} (r : RE c O H σ ρ) (e1 : σ[j]? = some (some (.ref a))) (e : ownAt ρ j = some t)
    (hk : ∀ p o, H p = some o → p ≠ a → H' p = some o) (hn : ∀ x ∈ O', x ∈ O ∨ H x = none) (hs : ∀ x ∈ O, x ∈ O') (ht : ∀ x ∈ O', H' x ≠ none) (ho : Own c.K c.w O' H' t' a) :
    RE c O' H' σ (likeAt ρ j t') ∧ Step O H σ ρ O' H' σ (likeAt ρ j t') ∧ ∀ p, Ow σ (likeAt ρ j t') p → Ow σ ρ p := by
  obtain ⟨a', s, h1, h2, h3, _, _⟩ := own_at r e
  unfold likeAt
  rw [h2]
  exact r.chg e1 h2 h3 hk hn hs ht ho

/-! ### calls -/
def eCall (m : List T → PR T) (fs : SE → R (List T)) : SE → R T := fun ρ => (fs ρ).bind fun ts ρ1 => (m ts).to ρ1
variable {W : WX} {j i l : Nat} {x : Str} {st : Stmt} {ps : List Str} {m : List T → PR T}
theorem rz_ofE {n : Str} {t : T} (L : Lets X c W) (re : RE c O H σ ρ) (h : c.WT n t) : Rz c.K c.w X.mg O H (WE W σ) n t := fun cls dd H' x h1 h2 h3 h4 =>
  L.go n t h cls dd σ H' x h1 (fun p o e g => h2 _ _ (re.frame p o e g)) h3 (h4.less re.outer)
theorem ee_call (G : Fn X.prog X.w X.K X.mg X.base j x st ps (spP X.K X.w X.mg false m)) (hr : RoomG i X.A) (hj : j ≤ i) (L : Lets X c W) (ha : PA X (e :: es) (tEA c fs)) (hg : Gl X x := by rfl) (hK : X.K = c.K := by rfl) (hw : X.w = c.w := by rfl)
    (hdb : (x == ("__debug__" : Str)) = false := by decide) (he : starEach (e :: es) X.env = (false, eval e X.env) :: starEach es X.env := by rfl) (hpl : (backTo pos (starEach es X.env)).any (·.1) = false := by rfl) : PE X (.Call (.Name x p) (e :: es) [] pos) (tE c false (eCall m fs)) := by
  obtain ⟨f, fd, G, F, hm, b⟩ := G
  refine PEm (pe_callG G (hr.monoG hj) hg hm F.kp b (fun σ => passAt L.tk σ) ha hdb he hpl) fun σ H Q ⟨ρ, O, re, po⟩ => ⟨ρ, O, re, PoEA.bind isE po fun ts ρ1 xs H1 O1 re1 s1 b1 po1 => ?_⟩
  rw [hK, hw]
  refine ⟨O1, ts, re1.trk, b1, ?_⟩
  cases q : m ts with
  | ok t => rw [q] at po1; exact fun v H' s b => po1 v H' O1 (re1.same s) (s1.th re (Step.same s)) b fun z => nomatch z
  | ex n t => rw [q] at po1; exact rz_ofE L re1 po1
  | bad => rw [q] at po1; exact po1.elim
theorem ee_callN (G : Fn X.prog X.w X.K X.mg X.base j x st ps (spP X.K X.w X.mg true m)) (hr : RoomG i X.A) (hj : j ≤ i) (L : Lets X c W) (ha : PA X (e :: es) (tEA c fs)) (hg : Gl X x := by rfl) (hK : X.K = c.K := by rfl) (hw : X.w = c.w := by rfl)
    (hdb : (x == ("__debug__" : Str)) = false := by decide) (he : starEach (e :: es) X.env = (false, eval e X.env) :: starEach es X.env := by rfl) (hpl : (backTo pos (starEach es X.env)).any (·.1) = false := by rfl) : PE X (.Call (.Name x p) (e :: es) [] pos) (tE c true (eCall m fs)) := by
  obtain ⟨f, fd, G, F, hm, b⟩ := G
  refine PEm (pe_callG G (hr.monoG hj) hg hm F.kp b (fun σ => passAt L.tk σ) ha hdb he hpl) fun σ H Q ⟨ρ, O, re, po⟩ => ⟨ρ, O, re, PoEA.bind isE po fun ts ρ1 xs H1 O1 re1 s1 b1 po1 => ?_⟩
  rw [hK, hw]
  refine ⟨O1, ts, re1.trk, b1, ?_⟩
  cases q : m ts with
  | ok t => rw [q] at po1; exact fun p H' s n o => po1 _ H' (p :: O1) (re1.new s n o.some) (s1.th re (Step.new s n)) ⟨p, rfl, List.mem_cons_self, re1.notOw n, re1.h0none n, o⟩ fun _ p' e => by cases e; exact s1.back (.inr n)
  | ex n t => rw [q] at po1; exact rz_ofE L re1 po1
  | bad => rw [q] at po1; exact po1.elim
/-- f(g, ..), g the name of something to be changed -/
def eIo (l : Nat) (m : T → List T → PR (T × T)) (fs : SE → R (List T)) : SE → R T := fun ρ => match ownAt ρ l with
  | some _ => (fs ρ).bind fun ts ρ1 => match ownAt ρ1 l with
    | some t0 => match m t0 ts with
      | .ok r => .ok r.1 (likeAt ρ1 l r.2)
      | _ => .bad
    | none => .bad
  | none => .bad
theorem ee_io {m : T → List T → PR (T × T)} (G : Fn X.prog X.w X.K X.mg X.base j x st ps (spI X.K X.w k m)) (hr : RoomG i X.A) (hj : j ≤ i) (L : Lets X c W) (h0 : PE X e (tVar l)) (ha : PA X es (tEA c fs)) (hg : Gl X x := by rfl) (hK : X.K = c.K := by rfl) (hw : X.w = c.w := by rfl)
    (hdb : (x == ("__debug__" : Str)) = false := by decide) (he : starEach (e :: es) X.env = (false, eval e X.env) :: starEach es X.env := by rfl) (hpl : (backTo pos (starEach es X.env)).any (·.1) = false := by rfl) : PE X (.Call (.Name x p) (e :: es) [] pos) (tE c k (eIo l m fs)) := by
  obtain ⟨f, fd, G, F, hm, b⟩ := G
  refine PEm (pe_callG G (hr.monoG hj) hg hm F.kp b (fun σ => passAt L.tk σ) (pa_cons h0 ha he) hdb he hpl) fun σ H Q ⟨ρ, O, re, po⟩ => ?_
  unfold eIo at po
  cases q0 : ownAt ρ l with
  | none => rw [q0] at po; exact po.elim
  | some t00 =>
    rw [q0] at po
    obtain ⟨a, s0, ea, _, _, _, _⟩ := own_at re q0
    refine ⟨.ref a, ea, ρ, O, re, PoEA.bind isE po fun ts ρ1 xs H1 O1 re1 s1 b1 po1 => ?_⟩
    rw [hK, hw]
    cases q1 : ownAt ρ1 l with
    | none => rw [q1] at po1; exact po1.elim
    | some t0 =>
      rw [q1] at po1
      obtain ⟨a', s, ea', _, _, ho, hm'⟩ := own_at re1 q1
      rw [ea] at ea'; cases ea'
      refine ⟨O1, a, t0, ts, xs, re1.trk, hm', rfl, ho, b1, ?_⟩
      have po1 : PoE c k O H σ ρ (match m t0 ts with
        | .ok r => .ok r.1 (likeAt ρ1 l r.2)
        | _ => .bad) Q := po1
      cases q2 : m t0 ts with
      | ex n t => rw [q2] at po1; exact po1.elim
      | bad => rw [q2] at po1; exact po1.elim
      | ok r =>
        rw [q2] at po1
        intro v H' kp vr
        have mono : (H' a ≠ none) → ∀ p, H1 p ≠ none → H' p ≠ none := fun ha p e => by
          by_cases h : p = a
          · subst h; exact ha
          · cases q : H1 p with
            | none => exact absurd q e
            | some o => rw [kp p o q h]; exact fun z => nomatch z
        cases k with
        | false =>
          obtain ⟨vr, ow⟩ := vr
          obtain ⟨r2, s2, _⟩ := chg_at (O' := O1) re1 ea q1 kp (fun _ h => .inl h) (fun _ h => h) (fun y hy => mono ow.some y (re1.trk y hy)) ow
          exact po1 v H' O1 r2 (s1.th re s2) vr fun z => nomatch z
        | true =>
          obtain ⟨p, ep, hp, op, ow⟩ := vr
          subst ep
          obtain ⟨r2, s2, n2⟩ := chg_at (O' := p :: O1) re1 ea q1 kp (fun y hy => by
              rcases List.mem_cons.mp hy with z | z
              · exact .inr (by rw [z]; exact hp)
              · exact .inl z) (fun _ h => List.mem_cons_of_mem _ h) (fun y hy => by
              rcases List.mem_cons.mp hy with z | z
              · rw [z]; exact op.some
              · exact mono ow.some y (re1.trk y z)) ow
          exact po1 _ H' (p :: O1) r2 (s1.th re s2) ⟨p, rfl, List.mem_cons_self, fun z => re1.trk p (re1.own_in (n2 p z)) hp, re1.h0none hp, op⟩ fun _ p' e => by cases e; exact s1.back (.inr hp)
end
end TL

set_option Elab.async false
set_option linter.all false
set_option maxRecDepth 100000
/-! TLF: defs that change their first argument; slots given up; loops and comprehensions that change something. -/
namespace TL
open PySem PySem.Spec L2

/-! ### a slot is given up -/
def frz (j : Nat) (ρ : SE) : SE := match ρ[j]? with
  | some (.ow t) => ρ.set j (.fz t)
  | _ => ρ
section
variable {X : Cx} {c : C} {k : Bool} {O O' : List Addr} {H H' : Hp} {σ σ' : Sg} {ρ ρ' : SE} {e o a b d : Expr} {es rest : List Expr} {p pos : Pos} {f fa fb fo fe : SE → R T} {ft f1 f2 : SE → R Bool} {fs : SE → R (List T)} {st : Stmt} {ss : List Stmt} {g g1 g2 : SE → SO}
theorem set_same_get {i : Nat} {v : Option V} (hv : σ[i]? = some v) : σ.set i v = σ := by
  apply List.ext_getElem?
  intro l
  by_cases hi : i = l
  · subst hi; rw [hv]; have : i < σ.length := (List.getElem?_eq_some_iff.mp hv).1; rw [List.getElem?_set_self this]
  · rw [List.getElem?_set_ne hi]
theorem RE.frz {j : Nat} (re : RE c O H σ ρ) : ∃ O', RE c O' H σ (frz j ρ) ∧ Step O H σ ρ O' H σ (frz j ρ) := by
  unfold TL.frz
  split
  · rename_i t q
    obtain ⟨v, hv⟩ := slot_some re q
    obtain ⟨a, e1, m, h0, o⟩ := re.slots j _ v q hv
    subst e1
    have hσ := set_same_get hv
    have hj : j < ρ.length := (List.getElem?_eq_some_iff.mp q).1
    have re' : RE c O H σ (ρ.set j .un) := by
      have z := re.put (i := j) (s := .un) (x := some (.ref a)) True.intro no_un
      rw [hσ] at z; exact z
    have sub : ∀ p, Ow σ (ρ.set j .un) p → Ow σ ρ p := fun p z => by
      rw [← hσ] at z
      exact ow_put no_un z re.len
    have nOw : ¬ Ow σ (ρ.set j .un) a := fun ⟨i, u, e2, e3⟩ => by
      have ne : i ≠ j := fun z => by
        subst z
        rw [List.getElem?_set_self hj] at e3
        rcases e3 with e3 | e3 <;> cases e3
      rw [List.getElem?_set_ne ne.symm] at e3
      exact ne (re.dist i j a u t e2 hv e3 (.inl q))
    have r2 := re'.drop nOw h0
    have rp : Rep c.K c.w (O.filter fun b => decide (b ≠ a)) H t (.ref a) := (o.less fun b hb => (List.mem_filter.mp hb).1).rep fun z => of_decide_eq_true (List.mem_filter.mp z).2 rfl
    have r3 := r2.put (i := j) (s := .fz t) (x := some (.ref a)) ⟨_, rfl, rp⟩ no_fz
    rw [hσ, List.set_set] at r3
    refine ⟨_, r3, ⟨fun _ _ e _ => e, fun p z => ?_, fun p z => .inl (List.mem_filter.mp z).1, fun p z n => List.mem_filter.mpr ⟨z, decide_eq_true fun y => n (y ▸ ⟨j, t, hv, .inl q⟩)⟩, fun _ z => z⟩⟩
    refine .inl ?_
    rw [← hσ] at z
    exact ow_put no_fz z re.len
  · exact ⟨O, re, Step.refl⟩
theorem ee_frz (j : Nat) (h : PE X e (tE c k f)) : PE X e (tE c k fun ρ => f (frz j ρ)) := PEm h fun σ H Q ⟨ρ, O, re, po⟩ => by
  obtain ⟨O', r, s⟩ := re.frz (j := j)
  exact ⟨_, O', r, PoE.from re.trk s po⟩
theorem es_frz (j : Nat) (h : PS X st (tS c g)) : PS X st (tS c fun ρ => g (frz j ρ)) := PSm h fun D σ H ⟨ρ, O, re, po⟩ => by
  obtain ⟨O', r, s⟩ := re.frz (j := j)
  exact ⟨_, O', r, PoS.from re.trk s po⟩
theorem ess_frz (j : Nat) (h : PSs X ss (tS c g)) : PSs X ss (tS c fun ρ => g (frz j ρ)) := PSsm h fun D σ H ⟨ρ, O, re, po⟩ => by
  obtain ⟨O', r, s⟩ := re.frz (j := j)
  exact ⟨_, O', r, PoS.from re.trk s po⟩

/-! ### defs that change their first argument -/
def iniI (N : Nat) (t0 : T) (ts : List T) : SE := .io t0 :: ini (N - 1) ts
def outI (k : Bool) (r : SO) : PR (T × T) := match r with
  | .rt k' t ρ => match (ρ[0]? : Option Sl) with
    | some (.io u) => if k && !k' then .bad else .ok (t, u)
    | _ => .bad
  | .nx ρ => match (ρ[0]? : Option Sl) with
    | some (.io u) => if k then .bad else .ok (.non, u)
    | _ => .bad
  | _ => .bad
def runI (k : Bool) (N n : Nat) (g : SE → SO) : T → List T → PR (T × T) := fun t0 ts => if ts.length + 1 = n then outI k (g (iniI N t0 ts)) else .bad
theorem ini_re' {N : Nat} {ts : List T} {vs : List V} (hc : c.H0 = H) (hg : ∀ p, c.g = some p → c.H0 p ≠ none) (hO : c.OO = O) (tr : ∀ a ∈ O, H a ≠ none) (r : Reps c.K c.w O H ts vs) : RE c O H (vs.map some ++ List.replicate (N - vs.length) none) (ini N ts) := by
  have z : RE ⟨c.K, c.w, c.H0, none, c.OO, c.WT⟩ O H (vs.map some ++ List.replicate (N - vs.length) none) (ini N ts) := ini_re hc rfl hO tr r
  refine ⟨z.len, fun i s v h1 h2 => ?_, z.dist, z.trk, fun p o e _ => by rw [← hc]; exact e, z.kept, hg, z.outer, z.otrk, z.onew⟩
  have y := z.slots i s v h1 h2
  cases s with
  | un => trivial
  | fz t => exact y
  | gd g t => exact y
  | ow t => exact y
  | io t => obtain ⟨_, _, _, w, _⟩ := y; cases w
theorem ini_no {N : Nat} {ts : List T} (i : Nat) (t : T) : ¬ ((ini N ts)[i]? = some (.ow t) ∨ (ini N ts)[i]? = some (.io t)) := fun z => by
  unfold ini at z
  by_cases hi : i < ts.length
  · rw [List.getElem?_append_left (by simpa using hi), List.getElem?_map] at z
    cases q : ts[i]? with
    | none => rw [q] at z; rcases z with z | z <;> cases z
    | some t => rw [q] at z; rcases z with z | z <;> cases z
  · rw [List.getElem?_append_right (by simpa using hi), List.getElem?_replicate] at z
    split at z <;> rcases z with z | z <;> cases z
theorem RE.cons_io {t : T} {a : Addr} (r : RE c O H σ ρ) (no : ∀ (i : Nat) t, ¬ (ρ[i]? = some (.ow t) ∨ ρ[i]? = some (.io t))) (ha : a ∈ O) (hg : c.g = some a) (ho : Own c.K c.w O H t a) : RE c O H (some (.ref a) :: σ) (.io t :: ρ) where
  len := by simp [r.len]
  slots := fun i s v h1 h2 => by
    cases i with
    | zero => cases h1; cases h2; exact ⟨a, rfl, ha, hg, ho⟩
    | succ i => exact r.slots i s v (by simpa using h1) (by simpa using h2)
  dist := fun i j p t u e1 e2 e3 e4 => by
    cases i with
    | zero =>
      cases j with
      | zero => rfl
      | succ j => exact absurd (by simpa using e4) (no j u)
    | succ i => exact absurd (by simpa using e3) (no i t)
  trk := r.trk
  frame := r.frame
  kept := r.kept
  gtrk := r.gtrk
  outer := r.outer
  otrk := r.otrk
  onew := r.onew
variable {P : Program} {w : World} {K : PySem.W.Frag} {mg : Str → Option Value} {base : Heap}
/-- THE RULE of a def that changes its first argument -/
theorem ok_io {x : Str} {st : Stmt} {ps N : List Str} {j : Nat} {k : Bool} {g : SE → SO} (D : HasDef K mg x st ps) (S : FnScope N ps (defScope st)) (hNl : 0 < N.length)
    (hbody : ∀ (f : Addr) (cdv : Value) (A : Around) (outer : List Env) (s : Shared) (H : Hp) (E : XK) (O : List Addr) (a : Addr), RoomG j (A.deeper (PyProof.Rows.envOfC x (defScope st) s.heap.objs.size f cdv)) →
      Lets (cxOf (L2.CX P w) P w K mg base N x (defScope st) f cdv A outer s H E) ⟨K, w, H, some a, O, fun _ _ => False⟩ (fun cls d _ H' => E cls d H') →
      PassesOwn (model P w) (cxOf (L2.CX P w) P w K mg base N x (defScope st) f cdv A outer s H E).A (cxOf (L2.CX P w) P w K mg base N x (defScope st) f cdv A outer s H E).env (cxOf (L2.CX P w) P w K mg base N x (defScope st) f cdv A outer s H E).xe →
      PSs (cxOf (L2.CX P w) P w K mg base N x (defScope st) f cdv A outer s H E) (defBody st) (tS ⟨K, w, H, some a, O, fun _ _ => False⟩ g)) : Fn P w K mg base (j + 1) x st ps (spI K w k (runI k N.length ps.length g)) := by
  obtain ⟨f, fd, F, hm, b⟩ := D
  refine ⟨f, fd, okG F S (fun vs H Q E h => ?_) (fun cdv A outer s H vs Q E hr h => ?_), F, hm, b⟩
  · obtain ⟨O, a, t0, ts, vr, _, _, e, _, r, po⟩ := h
    subst e
    unfold runI at po
    by_cases hl : ts.length + 1 = ps.length
    · rw [List.length_cons, ← r.len]; exact hl
    · rw [if_neg hl] at po; exact po.elim
  · obtain ⟨O, a, t0, ts, vr, tr, hgO, ev, how, r, po⟩ := h
    subst ev
    unfold runI at po
    by_cases hl : ts.length + 1 = ps.length
    rotate_left
    · rw [if_neg hl] at po; exact po.elim
    rw [if_pos hl] at po
    refine ⟨_, hbody f cdv A outer s H E O a hr ⟨takes_of rfl rfl rfl rfl, fun e t wt => wt.elim⟩ (passes_of rfl), ?_⟩
    have z := ini_re' (c := ⟨K, w, H, some a, O, fun _ _ => False⟩) (N := N.length - 1) rfl (fun p e => by cases e; exact how.some) rfl tr r
    have z2 := z.cons_io (fun i t => ini_no i t) hgO rfl how
    have eσ : (some (V.ref a) :: (vr.map some ++ List.replicate (N.length - 1 - vr.length) none) : Sg) = (V.ref a :: vr).map some ++ List.replicate (N.length - (V.ref a :: vr).length) none := by
      rw [List.map_cons, List.cons_append, List.length_cons]
      have : N.length - 1 - vr.length = N.length - (vr.length + 1) := by omega
      rw [this]
    rw [eσ] at z2
    refine ⟨iniI N.length t0 ts, O, z2, ?_⟩
    unfold outI at po
    cases q : g (iniI N.length t0 ts) with
    | rt k' t ρ =>
      rw [q] at po
      dsimp only at po
      intro x' σ' H' O' re st' v
      have ou : ∀ a ∈ O, a ∈ O' := re.outer
      cases q0 : ρ[0]? with
      | none => rw [q0] at po; exact po.elim
      | some s0 =>
        rw [q0] at po
        cases s0 with
        | io u =>
          obtain ⟨v0, hv0⟩ := slot_some re q0
          obtain ⟨a', e', m', hg', ow'⟩ := re.slots 0 _ _ q0 hv0
          cases hg'
          have kp : ∀ p o, H p = some o → p ≠ a → H' p = some o := fun p o e n => re.frame p o e fun z => n (Option.some.inj z).symm
          have owO : Own K w O H' u a := ow'.less ou
          cases k' with
          | false =>
            cases k with
            | true => exact po.elim
            | false => exact po x' H' kp ⟨Rep.less v ou, owO⟩
          | true =>
            obtain ⟨p, e, hp, n, h0, o⟩ := v
            subst e
            have le : ∀ b ∈ p :: O, b ∈ O' := fun b hb => by
              rcases List.mem_cons.mp hb with z | z
              · rw [z]; exact hp
              · exact ou b z
            have op : Own K w (p :: O) H' t p := o.less le
            cases k with
            | true => exact po _ H' kp ⟨p, rfl, h0, op, ow'.less le⟩
            | false => exact po _ H' kp ⟨new_rep tr h0 op, owO⟩
        | un => exact po.elim
        | fz u => exact po.elim
        | gd g u => exact po.elim
        | ow u => exact po.elim
    | nx ρ =>
      rw [q] at po
      dsimp only at po
      intro σ' H' O' re st'
      have ou : ∀ a ∈ O, a ∈ O' := re.outer
      cases q0 : ρ[0]? with
      | none => rw [q0] at po; exact po.elim
      | some s0 =>
        rw [q0] at po
        cases s0 with
        | io u =>
          obtain ⟨v0, hv0⟩ := slot_some re q0
          obtain ⟨a', e', m', hg', ow'⟩ := re.slots 0 _ _ q0 hv0
          cases hg'
          have kp : ∀ p o, H p = some o → p ≠ a → H' p = some o := fun p o e n => re.frame p o e fun z => n (Option.some.inj z).symm
          cases k with
          | true => exact po.elim
          | false => exact po .non H' kp ⟨rep_non, ow'.less ou⟩
        | un => exact po.elim
        | fz u => exact po.elim
        | gd g u => exact po.elim
        | ow u => exact po.elim
    | ex e t => rw [q] at po; exact po.elim
    | bk ρ => rw [q] at po; exact po.elim
    | ct ρ => rw [q] at po; exact po.elim
    | bad => rw [q] at po; exact po.elim
end
end TL

set_option Elab.async false
set_option linter.all false
set_option maxRecDepth 100000
/-! TLG: walks and comprehensions that change something. -/
namespace TL
open PySem PySem.Spec L2

def PoEI (c : C) (O : List Addr) (H : Hp) (σ : Sg) (ρ : SE) (r : R (List T)) (W : It → Hp → Prop) : Prop := match r with
  | .ok ts ρ' => ∀ J H' O', RE c O' H' σ ρ' → Step O H σ ρ O' H' σ ρ' → ItOk c.K c.w O' H' J ts → W J H'
  | .ex n t => c.WT n t
  | .bad => False
def tEI (c : C) (f : SE → R (List T)) : TI := fun σ H W => ∃ ρ O, RE c O H σ ρ ∧ PoEI c O H σ ρ (f ρ) W
section
variable {X : Cx} {c : C} {k : Bool} {O O' : List Addr} {H H' : Hp} {σ σ' : Sg} {ρ ρ' : SE} {e o a b d tg : Expr} {es rest : List Expr} {p pos : Pos} {f fa fb fo fe : SE → R T} {ft f1 f2 : SE → R Bool} {fs : SE → R (List T)} {st : Stmt} {ss : List Stmt} {g g1 g2 : SE → SO}
theorem isEI {W : It → Hp → Prop} : IsR c (PoEI c O H σ ρ · W) := ⟨fun _ _ h => h, fun h => h⟩
/-- a walk that changes nothing -/
theorem eei_p {it : PEv → PR (List T)} (h : PI X tg e (tIt c it)) : PI X tg e (tEI c (liftS it)) := PIm h fun σ H W ⟨ρ, O, re, po⟩ => ⟨strict ρ, O, re.strict, by
  unfold liftS at po
  cases q : it (strict ρ) with
  | ok ts => rw [q] at po; exact fun J H' s i => po J H' O (re.same s) (Step.same s) i
  | ex n t => rw [q] at po; exact po
  | bad => rw [q] at po; exact po⟩
def eItL (f : SE → R T) : SE → R (List T) := fun ρ => (f ρ).bind fun t ρ1 => match t with
  | .lst ts => .ok ts ρ1
  | _ => .bad
def eItT (f : SE → R T) : SE → R (List T) := fun ρ => (f ρ).bind fun t ρ1 => match t with
  | .tup ts => .ok ts ρ1
  | _ => .bad
theorem eei_lst (he : PE X e (tE c false f)) (hK : X.K = c.K := by rfl) : PI X tg e (tEI c (eItL f)) := PIm (pi_list he) fun σ H W ⟨ρ, O, re, po⟩ => ⟨ρ, O, re, PoE.bind isEI po fun t ρ1 x H1 O1 re1 s1 v1 _ po1 => by
  cases t with
  | lst ts =>
    obtain ⟨p, vs, e1, n, hp, r⟩ := of_lst (show Rep c.K c.w O1 H1 (.lst ts) x from v1)
    exact ⟨p, e1, ⟨vs, SqL.of hp⟩, by rw [hK]; exact po1 _ H1 O1 re1 s1 (it_lst n hp r)⟩
  | _ => exact po1.elim⟩
theorem eei_tup (he : PE X e (tE c false f)) (hK : X.K = c.K := by rfl) : PI X tg e (tEI c (eItT f)) := PIm (pi_tup he) fun σ H W ⟨ρ, O, re, po⟩ => ⟨ρ, O, re, PoE.bind isEI po fun t ρ1 x H1 O1 re1 s1 v1 _ po1 => by
  cases t with
  | tup ts =>
    obtain ⟨p, vs, e1, hp, r⟩ := of_tup (show Rep c.K c.w O1 H1 (.tup ts) x from v1)
    exact ⟨p, e1, ⟨vs, by rw [hK]; exact hp.sq⟩, by rw [hK]; exact po1 _ H1 O1 re1 s1 (it_tup hp r)⟩
  | _ => exact po1.elim⟩
def eRng1 (fs : SE → R (List T)) : SE → R (List T) := fun ρ => (fs ρ).bind fun ts ρ1 => match ts with
  | [.int j] => if -1000000000000 ≤ j ∧ j ≤ 1000000000000 then .ok (rngT 0 j.toNat) ρ1 else .bad
  | _ => .bad
def eRng2 (fs : SE → R (List T)) : SE → R (List T) := fun ρ => (fs ρ).bind fun ts ρ1 => match ts with
  | [.int i, .int j] => if -1000000000000 ≤ i ∧ i ≤ 1000000000000 ∧ -1000000000000 ≤ j ∧ j ≤ 1000000000000 then .ok (rngT i (j - i).toNat) ρ1 else .bad
  | _ => .bad
theorem eei_rng1 (hg : Gl X "range") (hm : X.mg "range" = none) (ha : PA X [a] (tEA c fs)) (hs : starEach [a] X.env = [(false, eval a X.env)] := by rfl) : PI X tg (.Call (.Name "range" p) [a] [] pos) (tEI c (eRng1 fs)) :=
  PIm (pi_range1 hg hm ha hs) fun σ H W ⟨ρ, O, re, po⟩ => ⟨ρ, O, re, PoEA.bind isEI po fun ts ρ1 xs H1 O1 re1 s1 b1 po1 => by
    split at po1
    · rename_i j
      split at po1
      · obtain ⟨x, e1, h1⟩ := Reps.one (ts := []) b1
        rw [of_int h1] at e1
        exact ⟨j, e1, by omega, by omega, po1 _ H1 O1 re1 s1 it_rng⟩
      · exact po1.elim
    · exact po1.elim⟩
theorem eei_rng2 (hg : Gl X "range") (hm : X.mg "range" = none) (ha : PA X [a, b] (tEA c fs)) (hs : starEach [a, b] X.env = [(false, eval a X.env), (false, eval b X.env)] := by rfl) (hs2 : starEach [b] X.env = [(false, eval b X.env)] := by rfl) :
    PI X tg (.Call (.Name "range" p) [a, b] [] pos) (tEI c (eRng2 fs)) :=
  PIm (pi_range2 hg hm ha hs hs2) fun σ H W ⟨ρ, O, re, po⟩ => ⟨ρ, O, re, PoEA.bind isEI po fun ts ρ1 xs H1 O1 re1 s1 b1 po1 => by
    split at po1
    · rename_i i j
      split at po1
      · obtain ⟨x, y, e1, h1, h2⟩ := Reps.two b1
        rw [of_int h1, of_int h2] at e1
        exact ⟨i, j, e1, ⟨by omega, by omega, by omega, by omega⟩, po1 _ H1 O1 re1 s1 it_rng⟩
      · exact po1.elim
    · exact po1.elim⟩
def eEnum (fs : SE → R (List T)) : SE → R (List T) := fun ρ => (fs ρ).bind fun us ρ1 => match us with
  | [.lst ts] => .ok (enumT ts) ρ1
  | _ => .bad
theorem eei_enum {elts : List Expr} {kk : Nat} {tpos : Pos} (hg : Gl X "enumerate") (hm : X.mg "enumerate" = none) (ha : PA X [e] (tEA c fs)) (hs : starEach [e] X.env = [(false, eval e X.env)] := by rfl) (hK : X.K = c.K := by rfl) :
    PI X (.Tuple elts kk tpos) (.Call (.Name "enumerate" p) [e] [] pos) (tEI c (eEnum fs)) :=
  PIm (pi_enum hg hm ha hs) fun σ H W ⟨ρ, O, re, po⟩ => ⟨ρ, O, re, PoEA.bind isEI po fun ts ρ1 xs H1 O1 re1 s1 b1 po1 => by
    split at po1
    · rename_i us
      obtain ⟨x, e1, h1⟩ := Reps.one (ts := []) b1
      obtain ⟨q, vs, e2, n, hp, r⟩ := of_lst h1
      rw [e2] at e1
      exact ⟨q, vs, e1, SqL.of hp, by rw [hK]; exact po1 _ H1 O1 re1 s1 (it_enum n hp r)⟩
    · exact po1.elim⟩

/-! ### for -/
def sForE (it : SE → R (List T)) (g : T → SE → Option SE) (body : SE → SO) : SE → SO := fun ρ => (it ρ).thn fun ts ρ1 => forGo g body ts ρ1
theorem es_forE {it : SE → R (List T)} {gg : T → SE → Option SE} {tgt : TG} {tb : TS} (h : PS X st (tFor (tEI c it) tgt tb)) (mg : ∀ v σ H Q, tGE c gg v σ H Q → tgt v σ H Q) (mb : ∀ D σ H, tS c g D σ H → tb D σ H) : PS X st (tS c (sForE it gg g)) := PSm h fun D σ H ⟨ρ, O, re, po⟩ => by
  refine ⟨ρ, O, re, ?_⟩
  unfold sForE at po
  cases q : it ρ with
  | ex n t => rw [q] at po; exact po
  | bad => rw [q] at po; exact po
  | ok ts ρe =>
    rw [q] at po
    have po : PoS c O H σ ρ (forGo gg g ts ρe) D := po
    intro J H1 Oe re1 se iok
    refine ⟨fun i m σ' H' => i + m = ts.length ∧ ∃ ρ' O', RE c O' H' σ' ρ' ∧ Step Oe H1 σ ρe O' H' σ' ρ' ∧ PoS c O H σ ρ (forGo gg g (ts.drop i) ρ') D, ⟨ts.length, by omega, ρe, Oe, re1, Step.refl, po⟩, fun i m σ' H' hW => ?_⟩
    obtain ⟨him, ρ1, O1, r1, s1, po1⟩ := hW
    obtain ⟨hgo, hstop⟩ := iok O1 H' (re1.car s1) r1.trk
    have s01 : Step O H σ ρ O1 H' σ' ρ1 := se.trans s1 re.trk
    by_cases hi : i < ts.length
    · refine .inr ?_
      obtain ⟨g1, gy⟩ := hgo i _ (List.getElem?_eq_getElem hi)
      refine ⟨g1, fun σ2 H2 => (i + 1) + (m - 1) = ts.length ∧ ∃ ρ' O', RE c O' H2 σ2 ρ' ∧ Step Oe H1 σ ρe O' H2 σ2 ρ' ∧ PoS c O H σ ρ (forGo gg g (ts.drop (i + 1)) ρ') D, fun σ2 H2 hN => ⟨m - 1, by omega, hN⟩, fun x H2 hy => ?_⟩
      obtain ⟨s3, rx⟩ := gy x H2 hy
      rw [List.drop_eq_getElem_cons hi] at po1
      unfold forGo at po1
      have r2 := r1.same s3
      have s12 : Step Oe H1 σ ρe O1 H2 σ' ρ1 := s1.trans (Step.same s3) re1.trk
      refine mg _ _ _ _ ⟨ρ1, O1, ts[i], r2, rx, ?_⟩
      cases q1 : gg ts[i] ρ1 with
      | none => rw [q1] at po1; exact po1
      | some ρ2 =>
        rw [q1] at po1
        dsimp only at po1
        intro σ3 r3 s33
        refine mb _ _ _ ⟨ρ2, O1, r3, ?_⟩
        have s13 := s12.trans s33 re1.trk
        have s03 : Step O H σ ρ O1 H2 σ3 ρ2 := se.trans s13 re.trk
        cases q2 : g ρ2 with
        | nx ρ3 =>
          rw [q2] at po1
          exact fun σ4 H4 O4 r4 s4 => ⟨by omega, ρ3, O4, r4, s13.trans s4 re1.trk, po1⟩
        | ct ρ3 =>
          rw [q2] at po1
          exact fun σ4 H4 O4 r4 s4 => ⟨by omega, ρ3, O4, r4, s13.trans s4 re1.trk, po1⟩
        | bk ρ3 =>
          rw [q2] at po1
          exact fun σ4 H4 O4 r4 s4 => po1 σ4 H4 O4 r4 (s03.trans s4 re.trk)
        | rt k t ρ3 =>
          rw [q2] at po1
          exact fun x4 σ4 H4 O4 r4 s4 v4 => po1 x4 σ4 H4 O4 r4 (s03.trans s4 re.trk) v4
        | ex n t => rw [q2] at po1; exact po1
        | bad => rw [q2] at po1; exact po1
    · have e : i = ts.length := by omega
      subst e
      rw [List.drop_length] at po1
      exact .inl ⟨hstop, po1 σ' H' O1 r1 s01⟩

/-! ### comprehensions -/
def wipeE (ρ : SE) : List Nat → SE
  | [] => ρ
  | v :: vs => (wipeE ρ vs).set v .un
theorem RE.wipe (re : RE c O H σ ρ) : ∀ vs : List Nat, RE c O H (L2.wipe σ vs) (wipeE ρ vs) ∧ ∀ p, Ow (L2.wipe σ vs) (wipeE ρ vs) p → Ow σ ρ p
  | [] => ⟨re, fun _ h => h⟩
  | v :: vs => by
    obtain ⟨r, h⟩ := RE.wipe re vs
    exact ⟨r.put (i := v) (s := .un) (x := none) True.intro no_un, fun p z => h p (ow_put no_un z r.len)⟩
theorem wipeE_len (ρ : SE) : ∀ vs : List Nat, (wipeE ρ vs).length = ρ.length
  | [] => rfl
  | v :: vs => by unfold wipeE; rw [List.length_set, wipeE_len ρ vs]
theorem wipeE_get (ρ : SE) (j : Nat) : ∀ vs : List Nat, (wipeE ρ vs)[j]? = if j ∈ vs ∧ j < ρ.length then some .un else ρ[j]?
  | [] => by simp [wipeE]
  | v :: vs => by
    unfold wipeE
    by_cases h : v = j
    · subst h
      by_cases hv : v < ρ.length
      · rw [List.getElem?_set_self (by rw [wipeE_len]; exact hv), if_pos ⟨List.mem_cons_self, hv⟩]
      · rw [if_neg (fun z => hv z.2), List.getElem?_eq_none (by rw [List.length_set, wipeE_len]; omega), List.getElem?_eq_none (by omega)]
    · rw [List.getElem?_set_ne h, wipeE_get ρ j vs]
      have e : (j ∈ v :: vs ∧ j < ρ.length) ↔ (j ∈ vs ∧ j < ρ.length) := by
        constructor
        · rintro ⟨a, b⟩
          rcases List.mem_cons.mp a with a | a
          · exact absurd a.symm h
          · exact ⟨a, b⟩
        · rintro ⟨a, b⟩; exact ⟨List.mem_cons_of_mem _ a, b⟩
      by_cases z : j ∈ vs ∧ j < ρ.length
      · rw [if_pos z, if_pos (e.mpr z)]
      · rw [if_neg z, if_neg fun y => z (e.mp y)]
/-- back from a wiped frame to the frame -/
theorem RE.unwipe {vs : List Nat} {ρ1 : SE} (re : RE c O H (L2.wipe σ vs) ρ1) (hu : ∀ v ∈ vs, ∀ s, ρ1[v]? = some s → s = .un) : RE c O H σ ρ1 ∧ ∀ p, Ow σ ρ1 p → Ow (L2.wipe σ vs) ρ1 p := by
  have hl : σ.length = ρ1.length := by rw [← re.len, wipe_length]
  have go : ∀ (i : Nat) s, ρ1[i]? = some s → s ≠ .un → (L2.wipe σ vs)[i]? = σ[i]? := fun i s h1 h2 => by
    rw [wipe_get, if_neg fun z => h2 (hu i z.1 s h1)]
  have own : ∀ (i : Nat) p t, σ[i]? = some (some (.ref p)) → (ρ1[i]? = some (.ow t) ∨ ρ1[i]? = some (.io t)) → (L2.wipe σ vs)[i]? = some (some (.ref p)) := fun i p t h1 h2 => by
    rcases h2 with h2 | h2
    · rw [go i _ h2 fun z => nomatch z]; exact h1
    · rw [go i _ h2 fun z => nomatch z]; exact h1
  refine ⟨⟨hl, fun i s v h1 h2 => ?_, fun i j p t u h1 h2 h3 h4 => re.dist i j p t u (own i p t h1 h3) (own j p u h2 h4) h3 h4, re.trk, re.frame, re.kept, re.gtrk, re.outer, re.otrk, re.onew⟩, fun p ⟨i, t, h1, h2⟩ => ⟨i, t, own i p t h1 h2, h2⟩⟩
  cases s with
  | un => trivial
  | fz t => exact re.slots i _ v h1 (by rw [go i _ h1 fun z => nomatch z]; exact h2)
  | gd g t => exact re.slots i _ v h1 (by rw [go i _ h1 fun z => nomatch z]; exact h2)
  | ow t => exact re.slots i _ v h1 (by rw [go i _ h1 fun z => nomatch z]; exact h2)
  | io t => exact re.slots i _ v h1 (by rw [go i _ h1 fun z => nomatch z]; exact h2)
/-- a write to an object that no slot holds -/
theorem RE.updD {D : Addr} {oo : HO} (r : RE c O H σ ρ) (hD : D ∈ O) (n : ¬ Ow σ ρ D) (h0 : c.H0 D = none) : RE c O (upd H D oo) σ ρ := by
  have ca : Car O H O (upd H D oo) := car_upd hD
  have kp : ∀ p o, H p = some o → p ≠ D → upd H D oo p = some o := fun p o e z => by rw [upd_ne z]; exact e
  have mono : ∀ p, H p ≠ none → upd H D oo p ≠ none := fun p e => by
    by_cases h : p = D
    · subst h; rw [upd_same]; exact fun z => nomatch z
    · rw [upd_ne h]; exact e
  refine ⟨r.len, fun i s v h1 h2 => ?_, r.dist, fun a ha => mono a (r.trk a ha), fun p o e z => kp p o (r.frame p o e z) (fun y => by rw [y, h0] at e; cases e), fun p e => mono p (r.kept p e), r.gtrk, r.outer, r.otrk, r.onew⟩
  have z := r.slots i s v h1 h2
  cases s with
  | un => trivial
  | fz u => obtain ⟨x, e, h⟩ := z; exact ⟨x, e, h.car ca⟩
  | gd g u => obtain ⟨x, e, h, y⟩ := z; exact ⟨x, e, h.car ca, y.car ca h⟩
  | ow u => obtain ⟨x, e, m, z0, h⟩ := z; exact ⟨x, e, m, z0, h.car ca fun o q => kp x o q fun y => n (y ▸ ⟨i, u, by rw [h2, e], .inl h1⟩)⟩
  | io u => obtain ⟨x, e, m, z0, h⟩ := z; exact ⟨x, e, m, z0, h.car ca fun o q => kp x o q fun y => n (y ▸ ⟨i, u, by rw [h2, e], .inr h1⟩)⟩
/-- a target's store, in a comprehension -/
def tGX (c : C) (is : List Nat) (g : T → SE → Option SE) : TG := fun v σ H Q => ∃ ρ O t, RE c O H σ ρ ∧ Rep c.K c.w O H t v ∧ match g t ρ with
  | some ρ' => ∀ σ', RE c O H σ' ρ' → Step O H σ ρ O H σ' ρ' → σ'.length = σ.length → (∀ j, j ∉ is → σ'[j]? = σ[j]?) → Q σ' H
  | none => False
theorem rd_gnX {i : Nat} {v : V} {Q : St → Hp → Prop} (h : tGX c [i] (gNE i) v σ H Q) : gName i v σ H Q := by
  obtain ⟨ρ, O, t, re, b, po⟩ := h
  unfold gNE at po
  by_cases hi : i < ρ.length
  · rw [if_pos hi] at po
    obtain ⟨r1, s1⟩ := put_fz (i := i) re b
    exact po _ r1 s1 (List.length_set ..) fun j hj => List.getElem?_set_ne (fun z => hj (by simp [z]))
  · rw [if_neg hi] at po; exact po.elim
def gT2E (i j : Nat) : T → SE → Option SE := fun t ρ => match t with
  | .tup [a, b] => if i < ρ.length ∧ j < ρ.length then some ((ρ.set i (.fz a)).set j (.fz b)) else none
  | _ => none
theorem rd_gt2X {K : PySem.W.Frag} (hK : K = c.K) {i j : Nat} {v : V} {Q : St → Hp → Prop} (h : tGX c [i, j] (gT2E i j) v σ H Q) : gTup K 2 (gCons (gName i) (gCons (gName j) gNil)) v σ H Q := by
  obtain ⟨ρ, O, t, re, b, po⟩ := h
  cases hg : gT2E i j t ρ with
  | none => rw [hg] at po; exact po.elim
  | some ρ' =>
    rw [hg] at po
    unfold gT2E at hg
    split at hg
    · split at hg
      · rename_i hi
        cases hg
        obtain ⟨p, vs, e1, hp, r⟩ := of_tup b
        obtain ⟨x, y, e2, h1, h2⟩ := Reps.two r
        subst e2
        obtain ⟨r1, s1⟩ := put_fz (i := i) re h1
        obtain ⟨r2, s2⟩ := put_fz (i := j) r1 h2
        refine ⟨p, _, e1, by rw [hK]; exact hp.sq, rfl, x, [y], rfl, y, [], rfl, rfl, ?_⟩
        refine po _ r2 (s1.trans s2 re.trk) (by rw [List.length_set, List.length_set]) fun z hz => ?_
        simp only [List.mem_cons, List.not_mem_nil, or_false, not_or] at hz
        rw [List.getElem?_set_ne (fun e => hz.2 e.symm), List.getElem?_set_ne (fun e => hz.1 e.symm)]
      · cases hg
    · cases hg
/-- no errors -/
def C.nx (c : C) : C := { c with WT := fun _ _ => False }
theorem RE.nx (r : RE c O H σ ρ) : RE c.nx O H σ ρ := ⟨r.len, r.slots, r.dist, r.trk, r.frame, r.kept, r.gtrk, r.outer, r.otrk, r.onew⟩
theorem RE.unx (r : RE c.nx O H σ ρ) : RE c O H σ ρ := ⟨r.len, r.slots, r.dist, r.trk, r.frame, r.kept, r.gtrk, r.outer, r.otrk, r.onew⟩
theorem lets1 : Lets X c.nx (fun _ _ _ _ => False) := ⟨takes0, fun _ _ h => h.elim⟩
/-- the loop -/
def leGo (vs : List Nat) (tg : T → SE → Option SE) (tst : SE → R Bool) (elt : SE → R T) : List T → SE → R (List T)
  | [], ρ => .ok [] (wipeE ρ vs)
  | t :: ts, ρ => match tg t (wipeE ρ vs) with
    | none => .bad
    | some ρ1 => match tst ρ1 with
      | .ok true ρ2 => match elt ρ2 with
        | .ok y ρ3 => (leGo vs tg tst elt ts ρ3).bind fun r ρ4 => .ok (y :: r) ρ4
        | _ => .bad
      | .ok false ρ2 => leGo vs tg tst elt ts ρ2
      | _ => .bad
def eLc (it : SE → R (List T)) (vs : List Nat) (tg : T → SE → Option SE) (tst : SE → R Bool) (elt : SE → R T) : SE → R T := fun ρ => (it ρ).bind fun ts ρ1 =>
  if small ts then (leGo vs tg tst elt ts ρ1).bind fun rs ρ2 => .ok (.lst rs) ρ2 else .bad
theorem leGo_un {vs : List Nat} {tg : T → SE → Option SE} {tst : SE → R Bool} {elt : SE → R T} : ∀ {ts : List T} {ρ : SE} {rs : List T} {ρ' : SE}, leGo vs tg tst elt ts ρ = .ok rs ρ' → ∀ v ∈ vs, ∀ s, ρ'[v]? = some s → s = .un
  | [], ρ, rs, ρ', h, v, hv, s, hs => by
    unfold leGo at h
    cases h
    rw [wipeE_get] at hs
    by_cases z : v < ρ.length
    · rw [if_pos ⟨hv, z⟩] at hs; cases hs; rfl
    · rw [if_neg fun y => z y.2, List.getElem?_eq_none (by omega)] at hs; cases hs
  | t :: ts, ρ, rs, ρ', h, v, hv, s, hs => by
    unfold leGo at h
    split at h
    · cases h
    · split at h
      · split at h
        · rename_i y ρ3 _
          cases q : leGo vs tg tst elt ts ρ3 with
          | ok r ρ4 => rw [q] at h; cases h; exact leGo_un q v hv s hs
          | ex n t => rw [q] at h; cases h
          | bad => rw [q] at h; cases h
        · cases h
      · exact leGo_un h v hv s hs
      · cases h
theorem leGo_nex {vs : List Nat} {tg : T → SE → Option SE} {tst : SE → R Bool} {elt : SE → R T} : ∀ (ts : List T) (ρ : SE) (n : Str) (u : T), leGo vs tg tst elt ts ρ ≠ .ex n u
  | [], ρ, n, u, h => by unfold leGo at h; cases h
  | t :: ts, ρ, n, u, h => by
    unfold leGo at h
    split at h
    · cases h
    · split at h
      · split at h
        · rename_i y ρ3 _
          cases q : leGo vs tg tst elt ts ρ3 with
          | ok r ρ4 => rw [q] at h; cases h
          | ex n t => exact leGo_nex _ _ _ _ q
          | bad => rw [q] at h; cases h
        · cases h
      · exact leGo_nex _ _ _ _ h
      · cases h
theorem wipe_wipe {σ2 : Sg} {vs : List Nat} {is : List Nat} (hl : σ2.length = (L2.wipe σ vs).length) (ha : ∀ j, j ∉ is → σ2[j]? = (L2.wipe σ vs)[j]?) (hs : ∀ i ∈ is, i ∈ vs) : L2.wipe σ2 vs = L2.wipe σ vs :=
  wipe_agree (by rw [hl, wipe_length]) ha hs
theorem rd_eLc {it : SE → R (List T)} {vs is : List Nat} {tg : T → SE → Option SE} {tst : SE → R Bool} {elt : SE → R T} (hs : ∀ i ∈ is, i ∈ vs) {Q : VK} (h : tE c true (eLc it vs tg tst elt) σ H Q) :
    tLc (tEI c it) (tGX c is tg) (tET c.nx tst) (tE c.nx false elt) vs σ H Q := by
  obtain ⟨ρ, O, re, po⟩ := h
  unfold eLc at po
  refine ⟨ρ, O, re, ?_⟩
  cases e1 : it ρ with
  | bad => rw [e1] at po; exact po
  | ex n t => rw [e1] at po; exact po
  | ok ts ρe =>
    rw [e1] at po
    intro J H1 Oe ree se iok D hD
    have po : PoE c true O H σ ρ (if small ts then (leGo vs tg tst elt ts ρe).bind fun rs ρ2 => .ok (.lst rs) ρ2 else .bad) Q := po
    by_cases hz : small ts = true
    rotate_left
    · rw [if_neg hz] at po; exact po.elim
    rw [if_pos hz] at po
    have hlen : ts.length ≤ sizeLine := small_ok hz
    cases e2 : leGo vs tg tst elt ts ρe with
    | bad => rw [e2] at po; exact po.elim
    | ex n t => exact (leGo_nex _ _ _ _ e2).elim
    | ok rs ρf =>
      rw [e2] at po
      have po : PoE c true O H σ ρ (.ok (.lst rs) ρf) Q := po
      have hun := leGo_un e2
      have hD0 : c.H0 D = none := ree.h0none hD
      have reD := ree.new (H' := upd H1 D (.lst [])) (same_upd hD) hD (by rw [upd_same]; exact fun z => nomatch z)
      refine ⟨fun i m Hk => i + m = ts.length ∧ ∃ acc av rest ρ1 O1, rs = acc ++ rest ∧ leGo vs tg tst elt (ts.drop i) ρ1 = .ok rest ρf ∧ acc.length ≤ i ∧ Hk D = some (.lst av) ∧ D ∈ O1 ∧ Reps c.K c.w O1 Hk acc av ∧
          RE c O1 Hk (L2.wipe σ vs) (wipeE ρ1 vs) ∧ Step Oe H1 σ ρe O1 Hk (L2.wipe σ vs) (wipeE ρ1 vs) ∧ ¬ Ow (L2.wipe σ vs) (wipeE ρ1 vs) D,
        ⟨ts.length, by omega, [], [], rs, ρe, D :: Oe, rfl, e2, Nat.le_refl _, upd_same, List.mem_cons_self, Reps.nil, (reD.wipe vs).1, ⟨fun p o e n => same_upd hD _ _ e, fun p z => .inl ((reD.wipe vs).2 p z), fun p z => by
          rcases List.mem_cons.mp z with y | y
          · exact .inr (by rw [y]; exact hD)
          · exact .inl y, fun p z _ => List.mem_cons_of_mem _ z, fun p e => same_ne (same_upd hD) e⟩, fun z => ree.trk D (ree.own_in ((reD.wipe vs).2 D z)) hD⟩, fun i m Hk hW => ?_⟩
      obtain ⟨him, acc, av, rest, ρ1, O1, ers, ego, hacc, hDk, hDO, hr, re1, s1, nD⟩ := hW
      obtain ⟨hgo, hstop⟩ := iok O1 Hk (ree.car s1) re1.trk
      by_cases hi : i < ts.length
      · refine .inr ?_
        have hget : ts[i]? = some ts[i] := List.getElem?_eq_getElem hi
        obtain ⟨g1, gy⟩ := hgo i _ hget
        rw [List.drop_eq_getElem_cons hi] at ego
        unfold leGo at ego
        split at ego
        · cases ego
        · rename_i ρ2 etg
          refine ⟨g1, fun H' => (i + 1) + (m - 1) = ts.length ∧ ∃ acc av rest ρ1 O1, rs = acc ++ rest ∧ leGo vs tg tst elt (ts.drop (i + 1)) ρ1 = .ok rest ρf ∧ acc.length ≤ i + 1 ∧ H' D = some (.lst av) ∧ D ∈ O1 ∧ Reps c.K c.w O1 H' acc av ∧
          RE c O1 H' (L2.wipe σ vs) (wipeE ρ1 vs) ∧ Step Oe H1 σ ρe O1 H' (L2.wipe σ vs) (wipeE ρ1 vs) ∧ ¬ Ow (L2.wipe σ vs) (wipeE ρ1 vs) D, fun H' hN => ⟨m - 1, by omega, hN⟩, fun x H2 hy => ?_⟩
          obtain ⟨s3, rx⟩ := gy x H2 hy
          have r2 := re1.same s3
          refine ⟨wipeE ρ1 vs, O1, ts[i], r2, rx, ?_⟩
          rw [etg]
          intro σ2 re2 st2 hle hag
          have hww := wipe_wipe hle hag hs
          refine ⟨hww, ρ2, O1, re2.nx, ?_⟩
          have back : ∀ {ρx Ox Hx}, RE c Ox Hx σ2 ρx → RE c Ox Hx (L2.wipe σ vs) (wipeE ρx vs) ∧ ∀ p, Ow (L2.wipe σ vs) (wipeE ρx vs) p → Ow σ2 ρx p := fun r => by
            have z := r.wipe vs
            rw [hww] at z
            exact z
          have s02 : Step Oe H1 σ ρe O1 H2 σ2 ρ2 := (s1.trans (Step.same s3) ree.trk).trans st2 ree.trk
          have nD2 : ¬ Ow σ2 ρ2 D := fun z => by
            rcases st2.own D z with y | y
            · exact nD y
            · rw [s3 _ _ hDk] at y; cases y
          split at ego
          · rename_i ρ3 et
            split at ego
            · rename_i y ρ4 ee
              rw [et]
              intro H3 O3 re3 st3
              rw [if_pos rfl]
              refine ⟨ρ3, O3, re3, ?_⟩
              rw [ee]
              intro z H4 O4 re4 st4 v4 _
              have re4 := re4.unx
              have D3 : H3 D = some (.lst av) := st3.keep _ _ (s3 _ _ hDk) nD2
              have nD3 : ¬ Ow σ2 ρ3 D := fun z => by
                rcases st3.own D z with y | y
                · exact nD2 y
                · rw [s3 _ _ hDk] at y; cases y
              have D4 : H4 D = some (.lst av) := st4.keep _ _ D3 nD3
              have nD4 : ¬ Ow σ2 ρ4 D := fun z => by
                rcases st4.own D z with y | y
                · exact nD3 y
                · rw [D3] at y; cases y
              have DO3 : D ∈ O3 := st3.hold D hDO nD2
              have DO4 : D ∈ O4 := st4.hold D DO3 nD3
              have s04 : Step Oe H1 σ ρe O4 H4 σ2 ρ4 := (s02.trans st3 ree.trk).trans st4 ree.trk
              obtain ⟨b4, n4⟩ := back re4
              have cu : Car O4 H4 O4 (upd H4 D (.lst (av ++ [z]))) := car_upd DO4
              have nDb : ¬ Ow (L2.wipe σ vs) (wipeE ρ4 vs) D := fun y => nD4 (n4 D y)
              have hr4 : Reps c.K c.w O4 H4 acc av := Reps.car (re3.car st4) _ _ (Reps.car (re2.car st3) _ _ (hr.same s3))
              cases q : leGo vs tg tst elt (ts.drop (i + 1)) ρ4 with
              | ex n t => rw [q] at ego; cases ego
              | bad => rw [q] at ego; cases ego
              | ok r ρ5 =>
                rw [q] at ego
                cases ego
                refine ⟨av, D4, ?_, by omega, acc ++ [y], av ++ [z], r, ρ4, O4, by rw [ers, List.append_assoc]; rfl, q, by rw [List.length_append]; simp; omega, upd_same, DO4, ?_, b4.updD DO4 nDb hD0, ⟨fun p o e n => ?_, fun p z => s04.own p (n4 p z), s04.sub, s04.hold, fun p e => ?_⟩, nDb⟩
                · rw [← hr.len]; omega
                · exact Reps.append (Reps.car cu _ _ hr4) (Reps.cons (Rep.car cu _ _ v4) Reps.nil)
                · rw [upd_ne (ne_of_none e hD)]; exact s04.keep p o e n
                · by_cases h : p = D
                  · subst h; rw [upd_same]; exact fun z => nomatch z
                  · rw [upd_ne h]; exact s04.mono p e
            · cases ego
          · rename_i ρ3 et
            rw [et]
            intro H3 O3 re3 st3
            rw [if_neg Bool.false_ne_true]
            have re3 := re3.unx
            have D3 : H3 D = some (.lst av) := st3.keep _ _ (s3 _ _ hDk) nD2
            have nD3 : ¬ Ow σ2 ρ3 D := fun z => by
              rcases st3.own D z with y | y
              · exact nD2 y
              · rw [s3 _ _ hDk] at y; cases y
            have DO3 : D ∈ O3 := st3.hold D hDO nD2
            obtain ⟨b3, n3⟩ := back re3
            have s03 : Step Oe H1 σ ρe O3 H3 σ2 ρ3 := s02.trans st3 ree.trk
            exact ⟨by omega, acc, av, rest, ρ3, O3, ers, ego, by omega, D3, DO3, Reps.car (re2.car st3) _ _ (hr.same s3), b3, ⟨s03.keep, fun p z => s03.own p (n3 p z), s03.sub, s03.hold, s03.mono⟩, fun y => nD3 (n3 D y)⟩
          · cases ego
      · have e : i = ts.length := by omega
        subst e
        refine .inl ⟨hstop, ?_⟩
        rw [List.drop_length] at ego
        unfold leGo at ego
        cases ego
        rw [List.append_nil] at ers
        subst ers
        obtain ⟨rf, nf⟩ := re1.unwipe hun
        have sf : Step Oe H1 σ ρe O1 Hk σ (wipeE ρ1 vs) := ⟨s1.keep, fun p z => s1.own p (nf p z), s1.sub, s1.hold, s1.mono⟩
        exact po _ Hk O1 rf (se.trans sf re.trk) ⟨D, rfl, hDO, fun z => nD (nf D z), hD0, ⟨av, hDk, hr⟩⟩ fun _ p' e => by cases e; exact se.back (.inr hD)
theorem ets_nilE : PTs X [] (tET c (fun ρ => .ok true ρ)) := ⟨fun pins s σ H Q I ⟨ρ, O, re, po⟩ => pts_nil.run pins s σ H Q I (po H O re Step.refl)⟩
theorem ets_oneE {e : Expr} (h : PT X e (tET c ft)) : PTs X [e] (tET c ft) := pts_one h
theorem ee_lc {iter elt : Expr} {ifs : List Expr} {scope : Scope} {own : List (Str × Nat)} {it : SE → R (List T)} {is : List Nat} {g : T → SE → Option SE} {tst : SE → R Bool} {fe : SE → R T} (hc : X.calm = true) (hN : X.N.Nodup) (hi : PI X tg iter (tEI c it)) (ok : BlkOk X.N X.env.scope scope own)
    (hg : ∀ (s : Shared) (H : Hp) (C : Addr) (cl : List (Str × Addr)) (fp : List Addr), PG (X.blk s H scope (compEnvC scope cl C X.env) fp) tg (tGX c is g))
    (ht : ∀ (s : Shared) (H : Hp) (C : Addr) (cl : List (Str × Addr)) (fp : List Addr), PTs (X.blk s H scope (compEnvC scope cl C X.env) fp) ifs (tET c.nx tst))
    (he : ∀ (s : Shared) (H : Hp) (C : Addr) (cl : List (Str × Addr)) (fp : List Addr), PE (X.blk s H scope (compEnvC scope cl C X.env) fp) elt (tE c.nx false fe))
    (hs : ∀ x, foldedSetIterable iter X.env x = pure x := by intro _; rfl) (his : ∀ i ∈ is, i ∈ own.map (·.2) := by decide) :
    PE X (.ListComp elt [⟨tg, iter, ifs, 0⟩] scope pos) (tE c true (eLc it (own.map (·.2)) g tst fe)) := PEm (pe_lc hc hN hi ok hg ht he hs) fun _ _ _ h => rd_eLc his h
end
end TL

set_option Elab.async false
set_option linter.all false
set_option maxRecDepth 100000
set_option maxHeartbeats 4000000
/-! TLH: sets of allI. -/
namespace TL
open PySem PySem.Spec L2 PyProof.Rows

/-- a set as it is laid -/
abbrev bareSet (w : World) : Obj := { cls := .type "set", dict := none, data := .set #[] 0 (.fresh 0 0 (!w.params.followText "set-order")) }
section
variable {P : Program} {w : World} {A : Around} {E : Value → Shared → Prop} {s : Shared}
/-- set(xs), xs a list of allI -/
theorem set_of_ints {q : Addr} {vs : Array Value} (ks : List Int) {Q : Value → Shared → Prop} (noH : A.handled = none) (isl : s.heap.IsList q vs) (allI : IntsAre vs.toList ks) (few : ks.length + 1 < scanBound)
    (goal : ∀ (h2 : Heap) (t2 m : Nat), SetR w h2 s.heap.objs.size (fun i => decide (i ∈ ks)) m → m ≤ ks.length → (∀ b o, s.heap.get? b = some o → h2.get? b = some o) → Q (.ref s.heap.objs.size) { s with heap := h2, toks := t2 }) :
    wpAny (model P w) A (call (.type "set") [.ref q]) Q E s := by
  have vsz : vs.size = ks.length := (Array.length_toList (xs := vs)).symm.trans (IntsAre.length allI)
  obtain ⟨mc, mt, mroE⟩ := F.called_set.mro
  have fMade := F.called_set.made
  have fSub := F.called_set.sub
  apply wpAny_call
  apply codeAny_of_tree
  show wpAny _ _ (callAny (.type "set") _) _ _ _
  refine wpAny_pure ⟨Code.quiet_builtin _ (by decide +kernel), ?_⟩
  refine codeAny_builtin F.entry_type_call ?_
  rw [Around.under_plain (weight_type_call_type "set" [.ref q] []) rfl]
  have fType := F.called_set.notType
  have fCan := F.called_set.canCreate
  have fCall := F.typeCall_set_1 (.ref q)
  repeat (any_goals (first | assumption | wp_step))
  refine codeAny_mono (code_set_led1 (.ref q) (E := E) (Q₁ := fun ob sb => ob = .ref s.heap.objs.size ∧ sb = { s with heap := s.heap.push (bareSet w) }) ⟨rfl, rfl⟩) fun out s1 post => ?_
  rcases out with er | fl
  · exact post
  cases fl
  case ret ob =>
    obtain ⟨rfl, rfl⟩ := post
    have atS : (s.heap.push (bareSet w)).get? s.heap.objs.size = some (bareSet w) := Heap.get?_push_size _ rfl
    have tyS : Shared.TypeIs { s with heap := s.heap.push (bareSet w) } (.ref s.heap.objs.size) "set" := ⟨_, atS, rfl⟩
    have fLook := F.called_set.init.lookup
    have fBind := F.called_set.init.bind (.ref s.heap.objs.size)
    repeat (any_goals (first | assumption | wp_step))
    refine codeAny_mono (codeAny_call_builtin (R := wants (fun r sb => r = .none ∧ ∃ h2 t2 m, sb = { s with heap := h2, toks := t2 } ∧ SetR w h2 s.heap.objs.size (fun i => decide (i ∈ ks)) m ∧ m ≤ ks.length ∧ (∀ b o, s.heap.get? b = some o → h2.get? b = some o)) E)
      F.called_set.init.plain F.entry_set_init (check_set_init_1 tyS ?_)) fun out2 s2 post2 => ?_
    rotate_left
    · rcases out2 with er | fl2
      · exact post2
      cases fl2
      case ret r =>
        obtain ⟨rfl, h2, t2, m, rfl, g1, g2, g3⟩ := post2
        repeat (any_goals (first | assumption | wp_step))
        exact goal _ _ _ g1 g2 g3
      all_goals exact post2.elim
    · obtain ⟨⟨ocl, odi, oda, osl⟩, atL, eCl, ln, eDa⟩ := isl
      dsimp only at eCl eDa
      subst eCl
      subst eDa
      have atL2 : (s.heap.push (bareSet w)).get? q = some { cls := .type "list", dict := odi, data := .seq vs ln, slots := osl } := Heap.get?_push_of_some _ atL
      have subA := F.sub_list_set
      have subB := F.sub_list_frozenset
      have notD : (Value.type "list" == Value.type "dict") = false := by decide
      have isl2 : (s.heap.push (bareSet w)).IsList q vs := ⟨_, atL2, rfl, ln, rfl⟩
      unfold Builtin.«set.__init__» noKeywords Builtin.Frozenset.updateFrom
      generalize hold : pyIter = held
      wp_walk
      subst hold
      refine wpAny_pyIter_list isl2 ?_
      refine wpAny_bind (wpAny_runValue ?_)
      have qlt : q < s.heap.objs.size := Heap.lt_size atL
      have noH3 : A.in1.in1.in1.handled = none := by simp [noH]
      have szP : (s.heap.push (bareSet w)).objs.size = s.heap.objs.size + 1 := Heap.size_push ..
      have neI : q ≠ (s.heap.push (bareSet w)).objs.size := by rw [szP]; exact Nat.ne_of_lt (Nat.lt_succ_of_lt qlt)
      have outS : s.heap.objs.size ∉ [(s.heap.push (bareSet w)).objs.size, q] := by
        rw [szP]
        intro z
        rcases List.mem_cons.mp z with y | y
        · exact Nat.ne_of_lt (Nat.lt_succ_self _) y
        · exact Nat.ne_of_lt qlt (List.mem_singleton.mp y).symm
      have each : ∀ (i : Nat) (v : Value), vs[i]? = some v → ∃ k t, ks[i]? = some k ∧ v = .int k t := fun i v e => by
        have hi : i < ks.length := by rw [← vsz]; exact (Array.getElem?_eq_some_iff.mp e).1
        obtain ⟨t, et⟩ := IntsAre.int_at allI i v (by rw [Array.getElem?_toList]; exact e)
        have ek : ks[i]? = some ks[i] := List.getElem?_eq_getElem hi
        refine ⟨_, t, ek, ?_⟩
        rw [et, List.getD_eq_getElem?_getD, ek, Option.getD_some]
      apply set_update_ints ((Walks.list noH3 _ q neI vs).toS) s.heap.objs.size outS ks vsz few each (vs.size - 0) 0 _ (by omega) (Nat.zero_le _) ⟨⟨_, Heap.get?_push_size _ rfl, rfl, rfl⟩, isl2.push _⟩
      · exact ⟨0, Nat.le_refl 0, setR_new_at (Heap.get?_push_of_some _ atS)⟩
      · intro s3 m mv le R3
        obtain ⟨h3, g3, d3, t3, o3⟩ := s3
        cases mv.gens
        cases mv.drawn
        cases mv.os
        refine wpAny_pure ?_
        show wpAny _ _ (ret Value.none) _ _ _
        refine wpAny_pure ⟨rfl, h3, t3, m, rfl, R3, by omega, fun b o e => ?_⟩
        have bl : b < s.heap.objs.size := Heap.lt_size e
        refine mv.heap b o ?_ (Heap.get?_push_of_some _ (Heap.get?_push_of_some _ e))
        intro z
        rcases List.mem_cons.mp z with y | y
        · exact Nat.ne_of_lt bl y
        · have y := List.mem_singleton.mp y
          rw [szP] at y
          exact Nat.ne_of_lt (Nat.lt_succ_of_lt bl) y
  all_goals exact post.elim
end
end TL

set_option Elab.async false
set_option linter.all false
set_option maxRecDepth 100000
/-! TLI: sets of ints, by trees. -/
namespace TL
open PySem PySem.Spec L2

def insU (k : Int) : List Int → List Int
  | [] => [k]
  | x :: xs => if k < x then k :: x :: xs else if k = x then x :: xs else x :: insU k xs
def setL : List Int → List Int
  | [] => []
  | k :: ks => insU k (setL ks)
theorem mem_insU {k j : Int} : ∀ {xs : List Int}, j ∈ insU k xs ↔ j = k ∨ j ∈ xs
  | [] => by simp [insU]
  | x :: xs => by
    unfold insU
    split
    · simp
    · split
      · rename_i _ e; subst e; simp
      · rw [List.mem_cons, mem_insU, List.mem_cons]
        constructor
        · rintro (h | h | h)
          · exact .inr (.inl h)
          · exact .inl h
          · exact .inr (.inr h)
        · rintro (h | h | h)
          · exact .inr (.inl h)
          · exact .inl h
          · exact .inr (.inr h)
theorem insU_sorted {k : Int} : ∀ {xs : List Int}, xs.Pairwise (· < ·) → (insU k xs).Pairwise (· < ·)
  | [], _ => by simp [insU]
  | x :: xs, h => by
    rw [List.pairwise_cons] at h
    unfold insU
    split
    · rename_i hk
      rw [List.pairwise_cons]
      refine ⟨fun y hy => ?_, List.pairwise_cons.mpr h⟩
      rcases List.mem_cons.mp hy with e | e
      · rw [e]; exact hk
      · exact Int.lt_trans hk (h.1 y e)
    · split
      · exact List.pairwise_cons.mpr h
      · rename_i h1 h2
        rw [List.pairwise_cons]
        refine ⟨fun y hy => ?_, insU_sorted h.2⟩
        rcases mem_insU.mp hy with e | e
        · omega
        · exact h.1 y e
theorem mem_setL {j : Int} : ∀ {xs : List Int}, j ∈ setL xs ↔ j ∈ xs
  | [] => by simp [setL]
  | x :: xs => by unfold setL; rw [mem_insU, mem_setL, List.mem_cons]
theorem setL_sorted : ∀ (xs : List Int), (setL xs).Pairwise (· < ·)
  | [] => List.Pairwise.nil
  | x :: xs => insU_sorted (setL_sorted xs)
theorem lt_nodup {xs : List Int} (h : xs.Pairwise (· < ·)) : xs.Nodup := h.imp fun h => Int.ne_of_lt h
theorem nodup_perm {α : Type} [DecidableEq α] : ∀ {a b : List α}, a.Nodup → b.Nodup → (∀ k, k ∈ a ↔ k ∈ b) → a.Perm b
  | [], b, _, _, h => by
    cases b with
    | nil => exact List.Perm.refl _
    | cons x xs => exact absurd ((h x).mpr List.mem_cons_self) (by simp)
  | x :: xs, b, ha, hb, h => by
    have hx : x ∈ b := (h x).mp List.mem_cons_self
    have p := List.perm_cons_erase hx
    rw [List.nodup_cons] at ha
    have hb2 : (b.erase x).Nodup := hb.erase x
    refine (List.Perm.cons x (nodup_perm ha.2 hb2 fun k => ?_)).trans p.symm
    rw [hb.mem_erase_iff]
    constructor
    · intro hk
      exact ⟨fun e => ha.1 (e ▸ hk), (h k).mp (List.mem_cons_of_mem _ hk)⟩
    · rintro ⟨ne, hk⟩
      rcases List.mem_cons.mp ((h k).mpr hk) with e | e
      · exact absurd e ne
      · exact e
theorem lt_uniq {a b : List Int} (ha : a.Pairwise (· < ·)) (hb : b.Pairwise (· < ·)) (h : ∀ k, k ∈ a ↔ k ∈ b) : a = b :=
  sorted_uniq (nodup_perm (lt_nodup ha) (lt_nodup hb) h) (ha.imp Int.le_of_lt) (hb.imp Int.le_of_lt)
theorem setR_len {w : World} {h : Heap} {a : Addr} {f : Int → Bool} {n : Nat} {S : List Int} (R : SetR w h a f n) (hs : S.Pairwise (· < ·)) (hm : ∀ k, k ∈ S ↔ f k = true) : n = S.length := by
  obtain ⟨o, es, ep, t, _, _, _, _, nd, mm, _, _, hn, _⟩ := R
  have p := nodup_perm nd (lt_nodup hs) fun k => ((mm k).symm.trans (hm k).symm)
  have e := p.length_eq
  rw [List.length_map, Array.length_toList] at e
  omega
section
variable {X : Cx} {K : PySem.W.Frag} {w : World}
def rSetL (K : PySem.W.Frag) (w : World) : List V → Hp → VK → Prop := fun xs H Q => ∃ (q : Addr) (ns : List Int), xs = [.ref q] ∧ SqL K H q (ns.map V.int) ∧ ns.length ≤ 1000 ∧ ∀ p f n, H p = none → (∀ k, f k = true ↔ k ∈ ns) → n = (setL ns).length → Q (.ref p) (upd H p (SetO w p f n))
theorem cr_setL (hc : X.calm = true) : CallR X (.type "set") (rSetL X.K X.w) := by
  intro pins s σ H xs us Q I r h
  obtain ⟨q, ns, rfl, hs, hl, po⟩ := h
  rw [Vals.ref1 r]
  obtain ⟨its, rv, pl, hz⟩ := I.list hs
  have hi := ints_of_vals rv
  refine set_of_ints (P := X.prog) (w := X.w) ns (I.ok.hd hc) pl.isList (by simpa using hi) (by unfold scanBound; omega) fun h2 t2 m R hm k => ?_
  have hn : H s.heap.objs.size = none := I.hok.fresh (Nat.le_refl _)
  exact ⟨.ref s.heap.objs.size, upd H s.heap.objs.size (SetO X.w s.heap.objs.size (fun i => decide (i ∈ ns)) m), I.laid (t' := t2) k (Nat.le_refl _) (setO_new R), rfl,
    po _ _ _ hn (fun k => by simp) (setR_len R (setL_sorted ns) fun k => by rw [mem_setL]; simp)⟩
def gSet : List T → Option T
  | [t] => t.lints.bind fun ns => if ns.length ≤ 1000 then some (.set (setL ns)) else none
  | _ => none
theorem new_setL : CallNew K w (rSetL K w) gSet := by
  intro O H ts z xs Q tr r e q
  unfold gSet at e
  split at e
  · rename_i t
    obtain ⟨x, ex, b⟩ := Reps.one (ts := []) r
    cases q1 : t.lints with
    | none => rw [q1] at e; cases e
    | some ns =>
      rw [q1] at e
      have e : (if ns.length ≤ 1000 then some (T.set (setL ns)) else none) = some z := e
      by_cases hl : ns.length ≤ 1000
      · rw [if_pos hl] at e; cases e
        obtain ⟨p, e2, hs⟩ := b.lints q1
        exact ⟨p, ns, by rw [ex, e2], hs, hl, fun p f n hn hf hnl => q p _ (same_upd hn) hn ⟨setL_sorted ns, f, fun k => by rw [mem_setL]; exact (hf k).symm, by rw [upd_same, hnl]⟩⟩
      · rw [if_neg hl] at e; cases e
  · cases e
/-- len of a set -/
def rLenS (w : World) : List V → Hp → VK → Prop := fun xs H Q => ∃ a f n, xs = [.ref a] ∧ H a = some (SetO w a f n) ∧ Q (.int (n : Nat)) H
theorem cr_lenS : CallR X (.builtin "len") (rLenS X.w) := by
  intro pins s σ H xs us Q I r h
  obtain ⟨a, f, n, rfl, ha, po⟩ := h
  rw [Vals.ref1 r]
  obtain ⟨o, es, ep, t, ho, hx, hd, _, _, _, hb, hf, hn, _⟩ := setO_get I ha
  refine call_len_set ho hx hd hf (by unfold scanBound at hb; omega) ⟨.int (n : Nat), H, I.tok _, ⟨_, by rw [hn]⟩, po⟩
def gLenS : List T → Option T
  | [.set S] => some (.int S.length)
  | _ => none
theorem ok_lenS : CallOk K w (rLenS w) gLenS := by
  intro O H ts z xs Q tr r e q
  unfold gLenS at e
  split at e
  · rename_i S
    cases e
    obtain ⟨x, ex, b⟩ := Reps.one (ts := []) r
    obtain ⟨a, e1, n, _, f, hm, ha⟩ := of_set b
    exact ⟨a, f, S.length, by rw [ex, e1], ha, q _ H (Same.refl H) rep_int⟩
  · cases e
theorem CallOk.or {r r' : List V → Hp → VK → Prop} {g g' : List T → Option T} (a : CallOk K w r g) (b : CallOk K w r' g') : CallOk K w (fun xs H Q => r xs H Q ∨ r' xs H Q) (fun ts => (g ts).orElse fun _ => g' ts) := by
  intro O H ts z xs Q tr r1 e q
  dsimp only at e
  cases e1 : g ts with
  | none => rw [e1] at e; exact .inr (b O H ts z xs Q tr r1 e q)
  | some y => rw [e1] at e; cases e; exact .inl (a O H ts _ xs Q tr r1 e1 q)
theorem CallNew.or {r r' : List V → Hp → VK → Prop} {g g' : List T → Option T} (a : CallNew K w r g) (b : CallNew K w r' g') : CallNew K w (fun xs H Q => r xs H Q ∨ r' xs H Q) (fun ts => (g ts).orElse fun _ => g' ts) := by
  intro O H ts z xs Q tr r1 e q
  dsimp only at e
  cases e1 : g ts with
  | none => rw [e1] at e; exact .inr (b O H ts z xs Q tr r1 e q)
  | some y => rw [e1] at e; cases e; exact .inl (a O H ts _ xs Q tr r1 e1 q)
/-- sorted(a set) -/
def gSortedSet : List T → Option T
  | [.set S] => if S.length < 64 then some (.lst (S.map T.int)) else none
  | _ => none
theorem new_sortedSet : CallNew K w (rSortedSet w) gSortedSet := by
  intro O H ts z xs Q tr r e q
  unfold gSortedSet at e
  split at e
  · rename_i S
    split at e
    · rename_i hl
      cases e
      obtain ⟨x, ex, b⟩ := Reps.one (ts := []) r
      obtain ⟨a, e1, n, hs, f, hm, ha⟩ := of_set b
      refine ⟨a, f, S.length, by rw [ex, e1], ha, hl, fun ns p hns hmem hlen hp => ?_⟩
      have : ns = S := lt_uniq hns hs fun k => (hmem k).trans (hm k).symm
      rw [this]
      exact q p _ (same_upd hp) hp (own_lst hp (reps_ints S))
    · cases e
  · cases e
/-- k in a set -/
def gInS : T → T → Option Bool
  | .int k, .set S => some (decide (k ∈ S))
  | _, _ => none
theorem ok_inS : BoOk K w (rSIn w) gInS := by
  intro O H t u z x y Q tr a b e q
  unfold gInS at e
  split at e
  · rename_i k S
    cases e
    obtain ⟨p, e1, n, hs, f, hm, ha⟩ := of_set b
    refine ⟨k, p, f, S.length, of_int a, e1, ha, ?_⟩
    have : f k = decide (k ∈ S) := by
      cases h : f k with
      | true => exact (decide_eq_true ((hm k).mpr h)).symm
      | false => exact (decide_eq_false fun y => by rw [(hm k).mp y] at h; cases h).symm
    rw [this]; exact q
  · cases e
end
end TL

set_option Elab.async false
set_option linter.all false
set_option maxRecDepth 100000
/-! TLJ: more calls: isinstance of many, bit_length, pop(), keywords alone, a def by fuel; dict comprehensions. -/
namespace TL
open PySem PySem.Spec L2
section
variable {X : Cx} {K : PySem.W.Frag} {w : World} {c : C} {O : List Addr} {H : Hp} {σ : Sg} {ρ : PEv}
theorem vals_tys : ∀ {ns : List String} {vs : List V} {us : List Value}, Paired ClsV vs (ns.map Value.type) → Vals vs us → us = ns.map Value.type := fun p r => ClsV.all p r
theorem ok_isiT : CallOk K w (fun xs H Q => rIsiT K xs H Q ∨ rIsiK K xs H Q) gIsiT := by
  intro O H ts z xs Q tr r e q
  unfold gIsiT at e
  split at e
  · rename_i t us
    obtain ⟨x, y, e1, a, b⟩ := Reps.two r
    cases e2 : t.ty? with
    | none => rw [e2] at e; cases e
    | some m =>
      rw [e2] at e
      have e : (T.tys us).map (fun ns => T.bl (ns.any fun n => isTab m n)) = some z := e
      cases e3 : T.tys us with
      | none => rw [e3] at e; cases e
      | some ns =>
        rw [e3] at e; cases e
        obtain ⟨tp, vs, e4, hf, r2⟩ := of_tup b
        obtain ⟨p1, p2⟩ := r2.tys e3
        have hk := kitAny_tab (K := K) (T.ty_mem e2) ns p2
        rcases hf with ⟨ht, _⟩ | ⟨⟨oc, od, dt, sl⟩, its, n, hl, h1, h2, h3, h4⟩
        · exact .inl ⟨x, tp, vs, .type m, ns.map Value.type, _, by rw [e1, e4], ht, p1, a.ty e2, hk, q _ H (Same.refl H) rep_bl⟩
        · dsimp only at h1 h2
          subst h1; subst h2
          have e5 := vals_tys p1 h4
          refine .inr ⟨x, tp, od, ns.map Value.type, n, sl, .type m, _, by rw [e1, e4], ?_, a.ty e2, hk, q _ H (Same.refl H) rep_bl⟩
          rw [hl, ← e5, Array.toArray_toList]
  · cases e
theorem call_isiA : CallR X (.builtin "isinstance") (fun xs H Q => rIsiT X.K xs H Q ∨ rIsiK X.K xs H Q) := CallR.or call_isiT call_isiK
variable {o e : Expr} {p pos apos cpos : Pos} {f fo : PEv → PR T}
theorem ev_bits (ho : PE X o (tP c f)) (hbase : attributeBase o "bit_length" X.env (eval o X.env) = eval o X.env := by rfl) (hline : (apos.endLine == pos.line) = true := by rfl) : PE X (.Call (.Attribute o "bit_length" apos) [] [] pos) (tP c (pU gBits f)) :=
  PEm (pe_bits ho hbase hline) fun σ H Q ⟨ρ, O, re, po⟩ => ⟨ρ, O, re, PoP.bind isP po fun t x H1 s1 b1 po1 => by
    cases t with
    | int i => exact ⟨i, of_int b1, po1 _ H1 s1 rep_int⟩
    | _ => exact po1.elim⟩
/-! ### x.pop() -/
def pop0 (j : Nat) : SE → R T := fun ρ => match ownAt ρ j with
  | some (.lst ts) => match ts[ts.length - 1]? with
    | some y => .ok y (likeAt ρ j (.lst ts.dropLast))
    | none => .bad
  | _ => .bad
theorem Reps.dropLast {ts : List T} {vs : List V} (r : Reps K w O H ts vs) : Reps K w O H ts.dropLast vs.dropLast := by
  rw [List.dropLast_eq_take, List.dropLast_eq_take, ← r.len]
  exact r.take _
theorem rd_pop0 {j : Nat} {KK : PySem.W.Frag} {Q : VK} (h : tE c false (pop0 j) σ H Q) : tBM0 KK "list" rPop (tVar j) σ H Q := by
  obtain ⟨ρ, O, re, po⟩ := h
  unfold pop0 at po
  split at po
  · rename_i ts eo
    split at po
    · rename_i y ey
      obtain ⟨a, s, ea, _, _, ⟨vs, hvs, rv⟩, hm⟩ := own_at re eo
      obtain ⟨z, hgz, rz⟩ := rv.get ey
      have cu : Car O H O (upd H a (.lst vs.dropLast)) := car_upd hm
      obtain ⟨r2, s2⟩ := write_at re (t' := .lst ts.dropLast) (o' := .lst vs.dropLast) ea eo ⟨_, upd_same, Reps.car cu _ _ rv.dropLast⟩
      exact ⟨.ref a, ea, .inl ⟨rfl, vs, SqL.of hvs⟩, a, vs, z, rfl, rfl, hvs, by rw [← rv.len]; exact hgz, po z _ O r2 s2 (Rep.car cu _ _ rz) fun w => nomatch w⟩
    · exact po.elim
  · exact po.elim

/-! ### keywords alone -/
theorem PKm {kws : List Keyword} {t t' : TA} (h : PK X kws t) (k : ∀ σ H Q, t' σ H Q → t σ H Q) : PK X kws t' := ⟨fun pos pins s σ H Q I q => h.run pos pins s σ H Q I (k σ H Q q)⟩
variable {kws : List Keyword} {fs : PEv → PR (List T)} {nm : Option Str} {kpos : Pos}
theorem ek_nil : PK X [] (tAs c pNil) := PKm pk_nil fun σ H Q ⟨ρ, O, re, po⟩ => po [] H (Same.refl H) Reps.nil
theorem ek_cons (ha : PE X e (tP c f)) (hr : PK X kws (tAs c fs)) : PK X (⟨nm, e, kpos⟩ :: kws) (tAs c (pCons f fs)) :=
  PKm (pk_cons ha hr) fun σ H Q ⟨ρ, O, re, po⟩ => ⟨ρ, O, re, PoP.bind isA po fun t x H1 s1 b1 po1 => ⟨ρ, O, re.same s1, PoA.bind isA po1 fun ts xs H2 s2 b2 po2 =>
    po2 (x :: xs) H2 (s1.trans s2) (Reps.cons (b1.same s2) b2)⟩⟩
/-- in the parameters' order -/
def perm {α : Type} (pm : List Nat) (ws : List α) : List α := pm.filterMap fun i => ws[i]?
theorem perm_vals {pm : List Nat} {zs : List V} {ws : List Value} (r : Vals zs ws) : Vals (perm pm zs) (perm pm ws) := by
  unfold perm
  induction pm with
  | nil => exact .nil
  | cons i pm ih =>
    rw [List.filterMap_cons, List.filterMap_cons]
    by_cases hi : i < zs.length
    · have hi2 : i < ws.length := by rw [← r.length]; exact hi
      rw [List.getElem?_eq_getElem hi, List.getElem?_eq_getElem hi2]
      refine .cons ?_ ih
      have h := Vals.get (i := i) r (List.getElem?_eq_getElem hi)
      obtain ⟨u, hu, ru⟩ := h
      rw [List.getElem?_eq_getElem hi2] at hu
      cases hu; exact ru
    · rw [List.getElem?_eq_none (by omega), List.getElem?_eq_none (by have := r.length; omega)]
      exact ih
theorem perm_reps {pm : List Nat} {ts : List T} {vs : List V} (r : Reps K w O H ts vs) : Reps K w O H (perm pm ts) (perm pm vs) := by
  unfold perm
  induction pm with
  | nil => exact Reps.nil
  | cons i pm ih =>
    rw [List.filterMap_cons, List.filterMap_cons]
    cases q : ts[i]? with
    | none => rw [r.get_none q]; exact ih
    | some t =>
      obtain ⟨v, hv, rv⟩ := r.get q
      rw [hv]; exact Reps.cons rv ih
/-- how keywords alone bind -/
def KwB (st : Stmt) (x : Str) (ps ks : List Str) (pm : List Nat) : Prop := ∀ (kV doc pv : Value) (an : Option Addr) (cdv ct : Value) (ws : List Value), ws.length = ks.length →
  bindArgs (PySem.W.fnOf x x (defArgs st) (defBody st) (defScope st) .none kV doc pv an cdv ct) ⟨[], ks.zip ws⟩ = pure (ps.zip (perm pm ws)) ∧ (perm pm ws).length = ps.length
variable {P : Program} {mg : Str → Option Value} {base : Heap}
variable {W : WX} {j i : Nat} {x : Str} {st : Stmt} {ps ks : List Str} {pm : List Nat} {m : List T → PR T} {sp : Sp}
def tKw (sp : Sp) (pm : List Nat) (E : Sg → XK) (t : TA) : TE := fun σ H Q => t σ H fun zs H2 => zs.length = kws.length ∧ sp (perm pm zs) H2 Q (E σ)
theorem evalAll_len {Xk : Cx} {l : List (Sem Value)} {Q : List Value → Shared → Prop} {M : Model} {A : Around} {E : Value → Shared → Prop} : ∀ {s : Shared}, wpAny M A (evalAll l) Q E s → wpAny M A (evalAll l) (fun ws s' => Q ws s' ∧ True) E s := fun h => wpAny_mono h (fun _ _ q => ⟨q, trivial⟩) fun _ _ x => x
theorem pe_kw0 (G : Fn X.prog X.w X.K X.mg X.base j x st ps sp) (B : KwB st x ps ks pm) (hr : RoomG j X.A) (hg : Gl X x) (tk : Takes X W) {t : TA}
    (hkw : PK X kws t) (hall : (backToKw pos (keywordEach kws X.env)).all (·.1.isSome) = true := by rfl) (hks : (backToKw pos (keywordEach kws X.env)).filterMap (·.1) = ks := by rfl)
    (hdb : (x == ("__debug__" : Str)) = false := by decide)
    (hpl : ((backTo pos (starEach [] X.env)).any (·.1) || (backToKw pos (keywordEach kws X.env)).any (·.1.isNone)) = false := by rfl) :
    PE X (.Call (.Name x p) [] kws pos) (fun σ H Q => t σ H fun zs H2 => zs.length = ks.length ∧ sp (perm pm zs) H2 Q (WE W σ)) := by
  obtain ⟨f, fd, F, Fu, hm, b⟩ := G
  refine ⟨fun pins s σ H Q I h => ?_⟩
  refine wpAny_Call_Name_kw (ld_glob I hg hm ?_ hdb)
  refine PySem.W.callWith_KW0 (h₀ := X.base) I.ok.mod.kin Fu.kp hall (thn (hkw.run pos pins s σ H _ I h) fun ws s2 ⟨zs, H2, I2, rz, hlen, q2⟩ => ⟨I2.kIn, ?_⟩) hpl
  rw [hks, List.nil_append]
  have r2 := perm_vals (pm := pm) rz
  have hw : ws.length = ks.length := by rw [← rz.length]; exact hlen
  obtain ⟨oc, od, kV, doc, pv, an, cdv, ct, osl, rfl, lk, hcd⟩ := Fu.ex
  obtain ⟨hb, hl⟩ := B kV doc pv an cdv ct ws hw
  refine wpAny_call (codeAny_mono (F.run X.A X.stack s2 H2 ⟨[], ks.zip ws⟩ (perm pm ws) (perm pm zs) Q (WE W σ) hr I2.env0 (.of_eq hb) r2 q2) fun r s' hq => ?_)
  cases r with
  | error e => exact passAt tk σ pins H2 s2 e s' I2 hq
  | ok fl =>
    cases fl with
    | ret u => exact I2.after hq
    | next => exact False.elim hq
    | brk => exact False.elim hq
    | cont => exact False.elim hq
def pKw (m : List T → PR T) (n : Nat) (pm : List Nat) (fs : PEv → PR (List T)) : PEv → PR T := fun ρ => (fs ρ).bind fun ts => if ts.length = n then m (perm pm ts) else .bad
theorem ev_kw (G : Fn X.prog X.w X.K X.mg X.base j x st ps (spP X.K X.w X.mg false m)) (B : KwB st x ps ks pm) (hr : RoomG i X.A) (hj : j ≤ i) (L : Lets X c W) (ha : PK X kws (tAs c fs)) (hg : Gl X x := by rfl) (hK : X.K = c.K := by rfl) (hw : X.w = c.w := by rfl)
    (hall : (backToKw pos (keywordEach kws X.env)).all (·.1.isSome) = true := by rfl) (hks : (backToKw pos (keywordEach kws X.env)).filterMap (·.1) = ks := by rfl)
    (hdb : (x == ("__debug__" : Str)) = false := by decide)
    (hpl : ((backTo pos (starEach [] X.env)).any (·.1) || (backToKw pos (keywordEach kws X.env)).any (·.1.isNone)) = false := by rfl) : PE X (.Call (.Name x p) [] kws pos) (tP c (pKw m ks.length pm fs)) :=
  PEm (pe_kw0 G B (hr.monoG hj) hg L.tk ha hall hks hdb hpl) fun σ H Q ⟨ρ, O, re, po⟩ => ⟨ρ, O, re, PoA.bind isP po fun ts xs H1 s1 b1 po1 => by
    by_cases hl : ts.length = ks.length
    rotate_left
    · rw [if_neg hl] at po1; exact po1.elim
    rw [if_pos hl] at po1
    refine ⟨by rw [← b1.len]; exact hl, ?_⟩
    rw [hK, hw]
    refine rd_sp L re s1 (perm_reps b1) ?_
    cases q : m (perm pm ts) with
    | ok t => rw [q] at po1; exact fun v H' s b => po1 v H' (s1.trans s) b
    | ex n t => rw [q] at po1; exact rz_of L re s1 po1
    | bad => rw [q] at po1; exact po1.elim⟩
theorem ev_kwN (G : Fn X.prog X.w X.K X.mg X.base j x st ps (spP X.K X.w X.mg true m)) (B : KwB st x ps ks pm) (hr : RoomG i X.A) (hj : j ≤ i) (L : Lets X c W) (ha : PK X kws (tAs c fs)) (hg : Gl X x := by rfl) (hK : X.K = c.K := by rfl) (hw : X.w = c.w := by rfl)
    (hall : (backToKw pos (keywordEach kws X.env)).all (·.1.isSome) = true := by rfl) (hks : (backToKw pos (keywordEach kws X.env)).filterMap (·.1) = ks := by rfl)
    (hdb : (x == ("__debug__" : Str)) = false := by decide)
    (hpl : ((backTo pos (starEach [] X.env)).any (·.1) || (backToKw pos (keywordEach kws X.env)).any (·.1.isNone)) = false := by rfl) : PE X (.Call (.Name x p) [] kws pos) (tN c (pKw m ks.length pm fs)) :=
  PEm (pe_kw0 G B (hr.monoG hj) hg L.tk ha hall hks hdb hpl) fun σ H Q ⟨ρ, O, re, po⟩ => ⟨ρ, O, re, PoA.bind isN po fun ts xs H1 s1 b1 po1 => by
    by_cases hl : ts.length = ks.length
    rotate_left
    · rw [if_neg hl] at po1; exact po1.elim
    rw [if_pos hl] at po1
    refine ⟨by rw [← b1.len]; exact hl, ?_⟩
    rw [hK, hw]
    refine rd_sp L re s1 (perm_reps b1) ?_
    cases q : m (perm pm ts) with
    | ok t => rw [q] at po1; exact fun v H' s n b => po1 v H' (s1.trans s) (s1.free n) b
    | ex n t => rw [q] at po1; exact rz_of L re s1 po1
    | bad => rw [q] at po1; exact po1.elim⟩
/-- a def that promises nothing (a recursion's bottom) -/
theorem fn_bad {k : Bool} (D : HasDef K mg x st ps) : Fn P w K mg base j x st ps (spP K w mg k fun _ => .bad) := by
  obtain ⟨f, fd, F, hm, b⟩ := D
  exact ⟨f, fd, ⟨fun vs H Q E ⟨_, _, _, _, z⟩ => z.elim, fun _ _ _ _ _ _ _ _ _ _ _ _ _ ⟨_, _, _, _, z⟩ => z.elim⟩, F, hm, b⟩
theorem Fn.mono {k : Nat} (F : Fn P w K mg base j x st ps sp) (h : j ≤ k) : Fn P w K mg base k x st ps sp := by
  obtain ⟨f, fd, F, r⟩ := F
  exact ⟨f, fd, F.mono h, r⟩
end
end TL

set_option Elab.async false
set_option linter.all false
set_option maxRecDepth 100000
/-! TLK: dict comprehensions, walks over the values of a dict of one's own. -/
namespace TL
open PySem PySem.Spec L2

/-- what a dict comprehension lays -/
def dcGo (tg : T → PEv → Option PEv) (tst : PEv → PR Bool) (ke elt : PEv → PR T) (ρ : PEv) : List T → List Key → List T → PR T
  | [], ks, vs => .ok (.dct ks vs)
  | t :: ts, ks, vs => match tg t ρ with
    | none => .bad
    | some ρ1 => (tst ρ1).nx fun b => if b then (ke ρ1).nx fun k => (elt ρ1).nx fun y => match k.key with
        | some q => if ks.length < 16777216 then (match dputT ks vs q y with
            | .dct ks' vs' => dcGo tg tst ke elt ρ ts ks' vs'
            | _ => .bad) else .bad
        | none => .bad
      else dcGo tg tst ke elt ρ ts ks vs
def pDc (it : PEv → PR (List T)) (vs : List Nat) (tg : T → PEv → Option PEv) (tst : PEv → PR Bool) (ke elt : PEv → PR T) : PEv → PR T := fun ρ => (it ρ).bind fun ts => dcGo tg tst ke elt (wipeP ρ vs) ts [] []
theorem dcGo_nex {tg : T → PEv → Option PEv} {tst : PEv → PR Bool} {ke elt : PEv → PR T} {ρ : PEv} : ∀ (ts : List T) (ks : List Key) (vs : List T) (n : Str) (u : T), dcGo tg tst ke elt ρ ts ks vs ≠ .ex n u
  | [], ks, vs, n, u, h => by cases h
  | t :: ts, ks, vs, n, u, h => by
    unfold dcGo at h
    split at h
    · cases h
    · rename_i ρ1 _
      cases q1 : tst ρ1 with
      | ok b =>
        rw [q1] at h
        cases b with
        | false => exact dcGo_nex ts ks vs n u h
        | true =>
          rw [PR.nx_ok, if_pos rfl] at h
          cases q2 : ke ρ1 with
          | ok k =>
            rw [q2, PR.nx_ok] at h
            cases q3 : elt ρ1 with
            | ok y =>
              rw [q3, PR.nx_ok] at h
              split at h
              · split at h
                · split at h
                  · exact dcGo_nex ts _ _ n u h
                  · cases h
                · cases h
              · cases h
            | ex _ _ => rw [q3] at h; cases h
            | bad => rw [q3] at h; cases h
          | ex _ _ => rw [q2] at h; cases h
          | bad => rw [q2] at h; cases h
      | ex _ _ => rw [q1] at h; cases h
      | bad => rw [q1] at h; cases h
theorem rd_dc {c : C} {it : PEv → PR (List T)} {vs is : List Nat} {tg : T → PEv → Option PEv} {tst : PEv → PR Bool} {ke elt : PEv → PR T} (hs : ∀ i ∈ is, i ∈ vs) {σ : Sg} {H : Hp} {Q : VK} (h : tN c (pDc it vs tg tst ke elt) σ H Q) :
    tDc (tIt c it) (tG c.nox is tg) (tTs c.nox tst) (tP c.nox ke) (tP c.nox elt) vs σ H Q := by
  obtain ⟨ρ, O, re, po⟩ := h
  unfold pDc at po
  refine ⟨ρ, O, re, ?_⟩
  cases e1 : it ρ with
  | bad => rw [e1] at po; exact po
  | ex k t => rw [e1] at po; exact po
  | ok ts =>
    rw [e1] at po
    intro J H1 s1 iok D hD
    have po : PoN c O H (dcGo tg tst ke elt (wipeP ρ vs) ts [] []) Q := po
    cases e2 : dcGo tg tst ke elt (wipeP ρ vs) ts [] [] with
    | bad => rw [e2] at po; exact po.elim
    | ex k t => exact (dcGo_nex _ _ _ _ _ e2).elim
    | ok rs =>
      rw [e2] at po
      have po : ∀ p H', Same H H' → H p = none → Own c.K c.w (p :: O) H' rs p → Q (.ref p) H' := po
      refine ⟨fun i m Hk => i + m = ts.length ∧ ∃ (kvs : List (Key × V)) (us : List T), dcGo tg tst ke elt (wipeP ρ vs) (ts.drop i) (kvs.map (·.1)) us = .ok rs ∧ Hk D = some (.dK kvs) ∧ Reps c.K c.w (D :: O) Hk us (kvs.map (·.2)) ∧ Same H1 Hk,
        ⟨ts.length, by omega, ([] : List (Key × V)), [], e2, upd_same, Reps.nil, same_upd hD⟩, fun i m Hk hW => ?_⟩
      obtain ⟨him, kvs, us, ego, hDk, hr, hsm⟩ := hW
      have trk : ∀ a ∈ D :: O, Hk a ≠ none := fun a ha => by
        rcases List.mem_cons.mp ha with z | z
        · rw [z, hDk]; exact fun z => nomatch z
        · exact same_ne hsm (same_ne s1 (re.trk a z))
      have car : Car O H1 (D :: O) Hk := fun p o e n => ⟨hsm _ _ e, by
        simp only [List.mem_cons, not_or]; exact ⟨ne_of_none e hD, n⟩⟩
      obtain ⟨hgo, hstop⟩ := iok (D :: O) Hk car trk
      have s2 : Same H Hk := s1.trans hsm
      by_cases hi : i < ts.length
      · refine .inr ?_
        have hget : ts[i]? = some ts[i] := List.getElem?_eq_getElem hi
        obtain ⟨g1, gy⟩ := hgo i _ hget
        rw [List.drop_eq_getElem_cons hi] at ego
        unfold dcGo at ego
        split at ego
        · cases ego
        · rename_i ρ1 etg
          obtain ⟨b, etst, ego⟩ := PR.nx_inv ego
          refine ⟨g1, fun H' => (i + 1) + (m - 1) = ts.length ∧ ∃ (kvs : List (Key × V)) (us : List T), dcGo tg tst ke elt (wipeP ρ vs) (ts.drop (i + 1)) (kvs.map (·.1)) us = .ok rs ∧ H' D = some (.dK kvs) ∧ Reps c.K c.w (D :: O) H' us (kvs.map (·.2)) ∧ Same H1 H',
            fun H' hN => ⟨m - 1, by omega, hN⟩, fun x H2 hy => ?_⟩
          obtain ⟨s3, rx⟩ := gy x H2 hy
          have reD : PRel c.nox (D :: O) H2 (L2.wipe σ vs) (wipeP ρ vs) := by
            have r0 : PRel c (D :: O) H2 σ ρ := ⟨re.len, fun j t e => by
              obtain ⟨v, h1, h2⟩ := re.get j t e
              exact ⟨v, h1, ((h2.same s1).car (car.trans (car_same s3)) : _)⟩, fun a ha => same_ne s3 (trk a ha), fun p o e n => s3 _ _ (s2 _ _ (re.fr p o e n)), fun a ha => List.mem_cons_of_mem _ (re.ou a ha)⟩
            exact (r0.wipe vs).nox
          refine ⟨wipeP ρ vs, D :: O, ts[i], reD, rx, ?_⟩
          rw [etg]
          intro σ' re3 hle hag
          refine ⟨wipe_agree (by rw [hle, wipe_length]) hag hs, ρ1, D :: O, re3, ?_⟩
          rw [etst]
          intro H3 s4
          have sD3 : H3 D = some (.dK kvs) := s4 _ _ (s3 _ _ hDk)
          have s13 : Same H1 H3 := (hsm.trans s3).trans s4
          have hr3 : Reps c.K c.w (D :: O) H3 us (kvs.map (·.2)) := (hr.same s3).same s4
          cases b with
          | false =>
            rw [if_neg Bool.false_ne_true]
            exact ⟨by omega, kvs, us, ego, sD3, hr3, s13⟩
          | true =>
            rw [if_pos rfl]
            obtain ⟨k, eke, ego⟩ := PR.nx_inv ego
            obtain ⟨y, eelt, ego⟩ := PR.nx_inv ego
            split at ego
            · rename_i q ek
              split at ego
              · rename_i hz
                refine ⟨ρ1, D :: O, re3.same s4, ?_⟩
                rw [eke]
                intro yk H4 s5 rk
                refine ⟨ρ1, D :: O, (re3.same s4).same s5, ?_⟩
                rw [eelt]
                intro z H5 s6 rz
                have sD5 : H5 D = some (.dK kvs) := s6 _ _ (s5 _ _ sD3)
                have cu : Car (D :: O) H5 (D :: O) (upd H5 D (.dK (putK kvs q z))) := car_upd List.mem_cons_self
                obtain ⟨us', eus, rus⟩ := dput_rep (k := q) ((hr3.same s5).same s6) rz
                rw [eus] at ego
                exact ⟨kvs, q, rk.key ek, sD5, by rw [List.length_map] at hz; rw [sizeLine_eq]; exact hz, by omega, _, us', ego, upd_same, Reps.car cu _ _ rus, fun p o e => by
                  rw [upd_ne (ne_of_none e hD)]
                  exact s6 _ _ (s5 _ _ (s13 _ _ e))⟩
              · cases ego
            · cases ego
      · refine .inl ⟨?_, ?_⟩
        · have : i = ts.length := by omega
          rw [this]; exact hstop
        · have : i = ts.length := by omega
          subst this
          rw [List.drop_length] at ego
          unfold dcGo at ego
          cases ego
          exact po D Hk s2 (s1.free hD) ⟨kvs, hDk, rfl, hr⟩
section
variable {X : Cx} {c : C} {tg iter kx elt : Expr} {ifs : List Expr} {scope : Scope} {own : List (Str × Nat)} {pos : Pos} {it : PEv → PR (List T)} {is : List Nat} {g : T → PEv → Option PEv} {tst : PEv → PR Bool} {fk fe : PEv → PR T}
theorem ev_dc (hc : X.calm = true) (hN : X.N.Nodup) (hi : PI X tg iter (tIt c it)) (ok : BlkOk X.N X.env.scope scope own)
    (hg : ∀ (s : Shared) (H : Hp) (C : Addr) (cl : List (Str × Addr)) (fp : List Addr), PG (X.blk s H scope (compEnvC scope cl C X.env) fp) tg (tG c.nox is g))
    (ht : ∀ (s : Shared) (H : Hp) (C : Addr) (cl : List (Str × Addr)) (fp : List Addr), PTs (X.blk s H scope (compEnvC scope cl C X.env) fp) ifs (tTs c.nox tst))
    (hk : ∀ (s : Shared) (H : Hp) (C : Addr) (cl : List (Str × Addr)) (fp : List Addr), PE (X.blk s H scope (compEnvC scope cl C X.env) fp) kx (tP c.nox fk))
    (he : ∀ (s : Shared) (H : Hp) (C : Addr) (cl : List (Str × Addr)) (fp : List Addr), PE (X.blk s H scope (compEnvC scope cl C X.env) fp) elt (tP c.nox fe))
    (hs : ∀ x, foldedSetIterable iter X.env x = pure x := by intro _; rfl) (his : ∀ i ∈ is, i ∈ own.map (·.2) := by decide) :
    PE X (.DictComp kx elt [⟨tg, iter, ifs, 0⟩] scope pos) (tN c (pDc it (own.map (·.2)) g tst fk fe)) := PEm (pe_dc hc hN hi ok hg ht hk he hs) fun _ _ _ h => rd_dc his h
/-- x = {..} on one line -/
theorem ps_setDc {i : Nat} {y : Str} {py spos : Pos} {wi : TI} {gg : TG} {tt : TT} {tk tv : TE} (hc : X.calm = true) (hN : X.N.Nodup) (hy : X.N[i]? = some y) (hyl : X.env.scope.names.lookup y = some .local)
    (hsw : swapsWith (.DictComp kx elt [⟨tg, iter, ifs, 0⟩] scope pos) (some (.Name y py)) spos.line X.env = pure true) (hi : PI X tg iter wi) (ok : BlkOk X.N X.env.scope scope own)
    (hg : ∀ (s : Shared) (H : Hp) (C : Addr) (cl : List (Str × Addr)) (fp : List Addr), PG (X.blk s H scope (compEnvC scope cl C X.env) fp) tg gg)
    (ht : ∀ (s : Shared) (H : Hp) (C : Addr) (cl : List (Str × Addr)) (fp : List Addr), PTs (X.blk s H scope (compEnvC scope cl C X.env) fp) ifs tt)
    (hk : ∀ (s : Shared) (H : Hp) (C : Addr) (cl : List (Str × Addr)) (fp : List Addr), PE (X.blk s H scope (compEnvC scope cl C X.env) fp) kx tk)
    (he : ∀ (s : Shared) (H : Hp) (C : Addr) (cl : List (Str × Addr)) (fp : List Addr), PE (X.blk s H scope (compEnvC scope cl C X.env) fp) elt tv)
    (hs : ∀ x, foldedSetIterable iter X.env x = pure x := by intro _; rfl) :
    PS X (.Assign [.Name y py] (.DictComp kx elt [⟨tg, iter, ifs, 0⟩] scope pos) spos) (tAsg (tDc wi gg tt tk tv (own.map (·.2))) (gName i)) := by
  constructor
  intro pins s σ H D I h
  rw [exec_Assign_Name_used _ _ _ _ hsw]
  refine wpAny_bind (wpAny_standAt (wpAny_bind ?_))
  have h : tDc wi gg tt tk tv (own.map (·.2)) σ H (fun x H1 => gName i x σ H1 D.nx) := h
  show wpAny _ X.A (do let _ ← comprehension (.DictComp kx elt [⟨tg, iter, ifs, 0⟩] scope pos) scope X.env (firstIterPos [⟨tg, iter, ifs, 0⟩] pos) newDict false (eval iter X.env) (some (assign (.Name y py) X.env))) _ _ s
  refine wpAny_bind (thn (dc_core (Qf := fun _ s' => SP X pins D .next s') hc hN I hi ok hg ht hk he hs h ?_) fun _ s' hq => wpAny_pure (wpAny_pure hq))
  intro L Cl s' m H' I' q hn fpk
  show wpAny _ _ (assign (.Name y py) X.env (.ref L)) _ _ _
  refine wpAny_assign_Name (store_ok2 (v := V.ref L) I' hN hy (.inl hyl) rfl ?_ (.inr hyl))
  rintro s2 I2 ⟨a, sb, ha⟩
  obtain ⟨f0, f1, f2, f3, f4, f5⟩ := fpk
  have ne : Cl ≠ a := ha.elim (fun z => by rw [z]; exact f1) fun z e => f4 y a z e.symm
  exact ⟨m, hn.sameBut sb ne, fun h3 sb3 => ⟨_, H', I2.turned (t' := s2.toks) (fun b o hb e => (sb3.2 b hb).trans e) f0 f1 f3 f4 f5, q⟩⟩
theorem sw_dict {gs : List Comprehension} {py : Pos} {y : Str} {l : Nat} {env : Env} (hk : env.scope.kind = .function) (hy : env.scope.names.lookup y = some .local) (hl : (py.line == pos.line) = true)
    (ha : (scope.names.any fun (n, k) => n == y && (k == .local || k == .cell)) = false) : swapsWith (.DictComp kx elt gs scope pos) (some (.Name y py)) l env = pure true := by
  have e1 : env.kindOf y = some .local := hy
  have e2 : env.blockKind = .function := by unfold Env.blockKind; rw [hk]; rfl
  unfold swapsWith
  simp only [e2, e1, ha, Expr.pos, hl]
  rfl

/-! ### for .. in d.values(), d one's own: flat results -/
def eVals (j : Nat) (vs : List Nat) (tg : T → PEv → Option PEv) (tst : PEv → PR Bool) (elt : PEv → PR T) : SE → R T := fun ρ => match ownAt ρ j with
  | some (.dct _ us) => match pLc (fun _ => .ok us) vs tg tst elt (strict ρ) with
    | .ok (.lst rs) => if rs.all T.isFlat then .ok (.lst rs) ρ else .bad
    | _ => .bad
  | _ => .bad
theorem it_vals {K : PySem.W.Frag} {w : World} {O : List Addr} {H : Hp} {d : Addr} {o : Obj} {kvs : List (Key × V)} {us : List T} (n : d ∉ O) (hd : H d = some (.frz o (.dK kvs))) (r : Reps K w O H us (kvs.map (·.2))) : ItOk K w O H (Itd d o kvs) us := fun O1 H1 ca tr => by
  have h1 := (ca _ _ hd n).1
  have hl : us.length = kvs.length := by rw [r.len, List.length_map]
  refine ⟨fun i t e => ?_, ⟨h1, Nat.le_of_eq hl.symm⟩⟩
  have hi : i < us.length := (List.getElem?_eq_some_iff.mp e).1
  refine ⟨⟨h1, by omega⟩, fun x H2 ⟨e2, k, hk⟩ => ?_⟩
  subst e2
  obtain ⟨v, hv, rv⟩ := r.get e
  rw [List.getElem?_map, hk] at hv
  cases hv
  exact ⟨Same.refl _, rv.car ca⟩
theorem rd_vals {σ : Sg} {H : Hp} {Q : VK} {j : Nat} {vs : List Nat} {te : TE} (hs : ∀ i ∈ is, i ∈ vs) (m : ∀ σ H Q, tLc (iVals (tVar j)) (tG c.nox is g) (tTs c.nox tst) (tP c.nox fe) vs σ H Q → te σ H Q) (h : tE c true (eVals j vs g tst fe) σ H Q) : tLockE te σ H Q := by
  obtain ⟨ρ, O, re, po⟩ := h
  unfold eVals at po
  split at po
  · rename_i ks us eo
    obtain ⟨d, s0, ea, es0, eso, ⟨kvs, hd, hks, r⟩, hdO⟩ := own_at re eo
    cases ep : pLc (fun _ => .ok us) vs g tst fe (strict ρ) with
    | ex _ _ => rw [ep] at po; exact po.elim
    | bad => rw [ep] at po; exact po.elim
    | ok z =>
      rw [ep] at po
      cases z with
      | lst rs =>
        dsimp only at po
        by_cases hf : rs.all T.isFlat = true
        · rw [if_pos hf] at po
          have z0 := re.slots j s0 _ es0 ea
          refine ⟨d, .dK kvs, hd, trivial, fun od => m _ _ _ ?_⟩
          have hOf : d ∉ O.filter fun a => decide (a ≠ d) := fun z => of_decide_eq_true (List.mem_filter.mp z).2 rfl
          have ca : Car O H (O.filter fun a => decide (a ≠ d)) (upd H d (.frz od (.dK kvs))) := fun p o e n => ⟨by rw [upd_ne (show p ≠ d from fun y => n (by rw [y]; exact hdO))]; exact e, fun y => n (List.mem_filter.mp y).1⟩
          have dg : ∀ o, c.H0 d = some o → c.g = some d := fun o e => by
            cases s0 with
            | ow u => obtain ⟨a', e', _, h0, _⟩ := z0; cases e'; rw [h0] at e; cases e
            | io u => obtain ⟨a', e', _, h0, _⟩ := z0; cases e'; exact h0
            | un => cases eso
            | fz u => cases eso
            | gd g u => cases eso
          have rs0 := re.strict
          have pr : PRel c.nox (O.filter fun a => decide (a ≠ d)) (upd H d (.frz od (.dK kvs))) σ (strict ρ) := ⟨rs0.len, fun i t e => by
              obtain ⟨x, h1, h2⟩ := rs0.get i t e
              exact ⟨x, h1, Rep.car ca _ _ h2⟩, fun a ha => by
              have := List.mem_filter.mp ha
              rw [upd_ne (of_decide_eq_true this.2)]
              exact re.trk a this.1, fun p o e n => by
              rw [upd_ne fun y => n (by rw [y] at e ⊢; exact dg o e)]
              exact re.frame p o e n, fun a ha => by cases ha⟩
          unfold pLc at ep
          rw [PR.bind_ok] at ep
          by_cases hz : small us = true
          rotate_left
          · rw [if_neg hz] at ep; cases ep
          rw [if_pos hz] at ep
          obtain ⟨rs', ego, ers⟩ := PR.bind_inv ep
          cases ers
          refine ⟨.ref d, ea, d, od, kvs, rfl, upd_same, fun D hD => ?_⟩
          refine lc_core' (c := c.nox) (Q := fun x H' => H' d = some (.frz od (.dK kvs)) ∧ Q x (upd H' d (.dK kvs))) hs pr (Same.refl _) (it_vals hOf upd_same (Reps.car ca _ _ r)) (small_ok hz) ego (fun p H' sm hn ow => ?_) hD
          refine ⟨sm _ _ upd_same, ?_⟩
          have hpd : p ≠ d := fun y => by rw [y, upd_same] at hn; cases hn
          have hpn : H p = none := by rw [upd_ne hpd] at hn; exact hn
          obtain ⟨vv, hv, rv⟩ := ow
          have sm2 : Same H (upd H' d (.dK kvs)) := fun q o e => by
            by_cases y : q = d
            · rw [y] at e ⊢; rw [upd_same]; rw [hd] at e; exact e
            · rw [upd_ne y]; exact sm q o (by rw [upd_ne y]; exact e)
          have ow2 : Own c.K c.w (p :: O) (upd H' d (.dK kvs)) (.lst rs) p := ⟨vv, by rw [upd_ne hpd]; exact hv, Reps.flat_any hf rv⟩
          exact po _ _ (p :: O) (re.new sm2 hpn ow2.some) (Step.new sm2 hpn) ⟨p, rfl, List.mem_cons_self, re.notOw hpn, re.h0none hpn, ow2⟩ fun _ p' e => by cases e; exact .inr hpn
        · rw [if_neg hf] at po; exact po.elim
      | _ => exact po.elim
  · exact po.elim
theorem ee_vals {j : Nat} {d : Expr} {apos cpos : Pos} (hd : PE X d (tVar j)) (hc : X.calm = true) (hN : X.N.Nodup) (ok : BlkOk X.N X.env.scope scope own)
    (hg : ∀ (s : Shared) (H : Hp) (C : Addr) (cl : List (Str × Addr)) (fp : List Addr), PG (X.blk s H scope (compEnvC scope cl C X.env) fp) tg (tG c.nox is g))
    (ht : ∀ (s : Shared) (H : Hp) (C : Addr) (cl : List (Str × Addr)) (fp : List Addr), PTs (X.blk s H scope (compEnvC scope cl C X.env) fp) ifs (tTs c.nox tst))
    (he : ∀ (s : Shared) (H : Hp) (C : Addr) (cl : List (Str × Addr)) (fp : List Addr), PE (X.blk s H scope (compEnvC scope cl C X.env) fp) elt (tP c.nox fe))
    (hs : ∀ x, foldedSetIterable (.Call (.Attribute d "values" apos) [] [] cpos) X.env x = pure x := by intro _; rfl) (his : ∀ i ∈ is, i ∈ own.map (·.2) := by decide)
    (hbase : attributeBase d "values" X.env (eval d X.env) = eval d X.env := by rfl) (hline : (apos.endLine == cpos.line) = true := by rfl) :
    PE X (.ListComp elt [⟨tg, .Call (.Attribute d "values" apos) [] [] cpos, ifs, 0⟩] scope pos) (tE c true (eVals j (own.map (·.2)) g tst fe)) :=
  PEm (pe_lock (pe_lc hc hN (pi_values hd hbase hline) ok hg ht he hs)) fun _ _ _ h => rd_vals his (fun _ _ _ h => h) h
end
end TL

set_option Elab.async false
set_option linter.all false
set_option maxRecDepth 100000
/-! TLL: statements that write into what is new but no longer one's own. -/
namespace TL
open PySem PySem.Spec L2

/-- without a word on what stands besides -/
def PoZ (c : C) (r : SO) (D : Ends) : Prop := match r with
  | .nx ρ' => ∀ σ' H' O', RE c O' H' σ' ρ' → D.nx σ' H'
  | .bk ρ' => ∀ σ' H' O', RE c O' H' σ' ρ' → D.bk σ' H'
  | .ct ρ' => ∀ σ' H' O', RE c O' H' σ' ρ' → D.ct σ' H'
  | .rt k t ρ' => ∀ x σ' H' O', RE c O' H' σ' ρ' → Val c k O' H' σ' ρ' t x → D.rt x H'
  | .ex n t => c.WT n t
  | .bad => False
def tZ (c : C) (g : SE → SO) : TS := fun D σ H => ∃ ρ O, RE c O H σ ρ ∧ PoZ c (g ρ) D
section
variable {X : Cx} {c : C} {k : Bool} {O O' : List Addr} {H H' : Hp} {σ σ' : Sg} {ρ ρ' : SE} {D : Ends} {st : Stmt} {rest ss : List Stmt} {g g1 g2 : SE → SO} {f f1 f2 : SE → R T} {e : Expr}
theorem PoZ.s {r : SO} (h : PoZ c r D) : PoS c O H σ ρ r D := by
  cases r with
  | nx ρ1 => exact fun σ1 H1 O1 re _ => h σ1 H1 O1 re
  | bk ρ1 => exact fun σ1 H1 O1 re _ => h σ1 H1 O1 re
  | ct ρ1 => exact fun σ1 H1 O1 re _ => h σ1 H1 O1 re
  | rt k t ρ1 => exact fun x σ1 H1 O1 re _ v => h x σ1 H1 O1 re v
  | ex n t => exact h
  | bad => exact h
theorem rd_Z (h : tZ c g D σ H) : tS c g D σ H := let ⟨ρ, O, re, po⟩ := h; ⟨ρ, O, re, po.s⟩
theorem zs_s (h : PS X st (tS c g)) : PS X st (tZ c g) := PSm h fun _ _ _ => rd_Z
theorem zss_s (h : PSs X ss (tS c g)) : PSs X ss (tZ c g) := PSsm h fun _ _ _ => rd_Z
theorem zs_cons (h1 : PS X st (tZ c g1)) (h2 : PSs X rest (tZ c g2)) : PSs X (st :: rest) (tZ c (sSeq g1 g2)) := PSsm (pss_cons h1 h2) fun D σ H ⟨ρ, O, re, po⟩ => by
  refine ⟨ρ, O, re, ?_⟩
  unfold sSeq at po
  cases q : g1 ρ with
  | nx ρ1 => rw [q] at po; exact fun σ1 H1 O1 re1 => ⟨ρ1, O1, re1, po⟩
  | bk ρ1 => rw [q] at po; exact po
  | ct ρ1 => rw [q] at po; exact po
  | rt k t ρ1 => rw [q] at po; exact po
  | ex n t => rw [q] at po; exact po
  | bad => rw [q] at po; exact po
theorem zs_one (h1 : PS X st (tZ c g1)) : PSs X [st] (tZ c g1) := pss_one h1
theorem zs_if {d : Expr} {p q : List Stmt} {pos} {ft : SE → R Bool} (hc : PT X d (tET c ft)) (ha : PSs X p (tZ c g1)) (hb : PSs X q (tZ c g2)) : PS X (.If d p q pos) (tZ c (sIf ft g1 g2)) := PSm (ps_if hc ha hb) fun D σ H ⟨ρ, O, re, po⟩ => ⟨ρ, O, re, by
  unfold sIf at po
  cases q : ft ρ with
  | ok b ρ1 =>
    rw [q] at po
    intro H1 O1 re1 s1
    cases b with
    | true => rw [if_pos rfl]; exact ⟨ρ1, O1, re1, po⟩
    | false => rw [if_neg Bool.false_ne_true]; exact ⟨ρ1, O1, re1, po⟩
  | ex n t => rw [q] at po; exact po
  | bad => rw [q] at po; exact po⟩
/-- a walk that hangs on nothing in the heap -/
def ItFree (K : PySem.W.Frag) (w : World) (J : It) (ts : List T) : Prop := ∀ O1 H1, (∀ a ∈ O1, H1 a ≠ none) →
  (∀ (i : Nat) t, ts[i]? = some t → J.go i H1 ∧ ∀ x H2, J.yld i H1 x H2 → Same H1 H2 ∧ Rep K w O1 H2 t x) ∧ J.stop ts.length H1
/-- .. or on what stood at first -/
def ItOld (c : C) (J : It) (ts : List T) : Prop := ∀ O1 H1 σ1 ρ1, RE c O1 H1 σ1 ρ1 →
  (∀ (i : Nat) t, ts[i]? = some t → J.go i H1 ∧ ∀ x H2, J.yld i H1 x H2 → Same H1 H2 ∧ Rep c.K c.w O1 H2 t x) ∧ J.stop ts.length H1
def PoEO (c : C) (O : List Addr) (H : Hp) (σ : Sg) (ρ : SE) (r : R (List T)) (W : It → Hp → Prop) : Prop := match r with
  | .ok ts ρ' => ∀ J H' O', RE c O' H' σ ρ' → Step O H σ ρ O' H' σ ρ' → ItOld c J ts → W J H'
  | .ex n t => c.WT n t
  | .bad => False
def tEO (c : C) (f : SE → R (List T)) : TI := fun σ H W => ∃ ρ O, RE c O H σ ρ ∧ PoEO c O H σ ρ (f ρ) W
theorem it_rngO {a : Int} {n : Nat} : ItOld c (Itr a n) (rngT a n) := fun O1 H1 σ1 ρ1 re => by
  refine ⟨fun i t e => ?_, by show n ≤ (rngT a n).length; simp [rngT]⟩
  obtain ⟨hi, et⟩ := rngT_get e
  refine ⟨hi, fun x H2 hy => ?_⟩
  obtain ⟨e1, hx⟩ := hy
  subst e1
  rw [et, hx]
  exact ⟨Same.refl _, rep_int⟩
theorem isEO {W : It → Hp → Prop} : IsR c (PoEO c O H σ ρ · W) := ⟨fun _ _ h => h, fun h => h⟩
variable {a b tg : Expr} {fs : SE → R (List T)} {p pos : Pos}
theorem eeo_rng1 (hg : Gl X "range") (hm : X.mg "range" = none) (ha : PA X [a] (tEA c fs)) (hs : starEach [a] X.env = [(false, eval a X.env)] := by rfl) : PI X tg (.Call (.Name "range" p) [a] [] pos) (tEO c (eRng1 fs)) :=
  PIm (pi_range1 hg hm ha hs) fun σ H W ⟨ρ, O, re, po⟩ => ⟨ρ, O, re, PoEA.bind isEO po fun ts ρ1 xs H1 O1 re1 s1 b1 po1 => by
    split at po1
    · rename_i j
      split at po1
      · obtain ⟨x, e1, h1⟩ := Reps.one (ts := []) b1
        rw [of_int h1] at e1
        exact ⟨j, e1, by omega, by omega, po1 _ H1 O1 re1 s1 it_rngO⟩
      · exact po1.elim
    · exact po1.elim⟩
theorem eeo_rng2 (hg : Gl X "range") (hm : X.mg "range" = none) (ha : PA X [a, b] (tEA c fs)) (hs : starEach [a, b] X.env = [(false, eval a X.env), (false, eval b X.env)] := by rfl) (hs2 : starEach [b] X.env = [(false, eval b X.env)] := by rfl) :
    PI X tg (.Call (.Name "range" p) [a, b] [] pos) (tEO c (eRng2 fs)) :=
  PIm (pi_range2 hg hm ha hs hs2) fun σ H W ⟨ρ, O, re, po⟩ => ⟨ρ, O, re, PoEA.bind isEO po fun ts ρ1 xs H1 O1 re1 s1 b1 po1 => by
    split at po1
    · rename_i i j
      split at po1
      · obtain ⟨x, y, e1, h1, h2⟩ := Reps.two b1
        rw [of_int h1, of_int h2] at e1
        exact ⟨i, j, e1, ⟨by omega, by omega, by omega, by omega⟩, po1 _ H1 O1 re1 s1 it_rngO⟩
      · exact po1.elim
    · exact po1.elim⟩
theorem zs_for {it : SE → R (List T)} {gg : T → SE → Option SE} {tgt : TG} {tb : TS} (h : PS X st (tFor (tEO c it) tgt tb)) (mg : ∀ v σ H Q, tGE c gg v σ H Q → tgt v σ H Q) (mb : ∀ D σ H, tZ c g D σ H → tb D σ H) : PS X st (tZ c (sForE it gg g)) := PSm h fun D σ H ⟨ρ, O, re, po⟩ => by
  refine ⟨ρ, O, re, ?_⟩
  unfold sForE at po
  cases q : it ρ with
  | ex n t => rw [q] at po; exact po
  | bad => rw [q] at po; exact po
  | ok ts ρe =>
    rw [q] at po
    have po : PoZ c (forGo gg g ts ρe) D := po
    intro J H1 Oe re1 se iok
    refine ⟨fun i m σ' H' => i + m = ts.length ∧ ∃ ρ' O', RE c O' H' σ' ρ' ∧ PoZ c (forGo gg g (ts.drop i) ρ') D, ⟨ts.length, by omega, ρe, Oe, re1, po⟩, fun i m σ' H' hW => ?_⟩
    obtain ⟨him, ρ1, O1, r1, po1⟩ := hW
    obtain ⟨hgo, hstop⟩ := iok O1 H' σ' ρ1 r1
    by_cases hi : i < ts.length
    · refine .inr ?_
      obtain ⟨g1, gy⟩ := hgo i _ (List.getElem?_eq_getElem hi)
      refine ⟨g1, fun σ2 H2 => (i + 1) + (m - 1) = ts.length ∧ ∃ ρ' O', RE c O' H2 σ2 ρ' ∧ PoZ c (forGo gg g (ts.drop (i + 1)) ρ') D, fun σ2 H2 hN => ⟨m - 1, by omega, hN⟩, fun x H2 hy => ?_⟩
      obtain ⟨s3, rx⟩ := gy x H2 hy
      rw [List.drop_eq_getElem_cons hi] at po1
      unfold forGo at po1
      have r2 := r1.same s3
      refine mg _ _ _ _ ⟨ρ1, O1, ts[i], r2, rx, ?_⟩
      cases q1 : gg ts[i] ρ1 with
      | none => rw [q1] at po1; exact po1
      | some ρ2 =>
        rw [q1] at po1
        dsimp only at po1
        intro σ3 r3 s33
        refine mb _ _ _ ⟨ρ2, O1, r3, ?_⟩
        cases q2 : g ρ2 with
        | nx ρ3 =>
          rw [q2] at po1
          exact fun σ4 H4 O4 r4 => ⟨by omega, ρ3, O4, r4, po1⟩
        | ct ρ3 =>
          rw [q2] at po1
          exact fun σ4 H4 O4 r4 => ⟨by omega, ρ3, O4, r4, po1⟩
        | bk ρ3 => rw [q2] at po1; exact po1
        | rt k t ρ3 => rw [q2] at po1; exact po1
        | ex n t => rw [q2] at po1; exact po1
        | bad => rw [q2] at po1; exact po1
    · have e : i = ts.length := by omega
      subst e
      rw [List.drop_length] at po1
      exact .inl ⟨hstop, po1 σ' H' O1 r1⟩
end
end TL

set_option Elab.async false
set_option linter.all false
set_option maxRecDepth 100000
/-! TLM: writes into new things that were given on; defs whose bodies do so. -/
namespace TL
open PySem PySem.Spec L2

def spoil1 (s : Sl) : Sl := match s with
  | .ow (.lst ts) => if ts.all T.isFlat then s else .un
  | .io (.lst ts) => if ts.all T.isFlat then s else .un
  | .ow (.dct _ vs) => if vs.all T.isFlat then s else .un
  | .ow (.set _) => s
  | .fz t => if t.isFlat then s else .un
  | .gd .old _ => s
  | .gd _ t => if t.isFlat then .fz t else .un
  | _ => .un
def spoil (ρ : SE) : SE := ρ.map spoil1
section
variable {X : Cx} {c : C} {k : Bool} {O O' : List Addr} {H H' : Hp} {σ σ' : Sg} {ρ ρ' : SE} {D : Ends} {st : Stmt} {rest ss : List Stmt} {g g1 g2 : SE → SO} {f f1 f2 : SE → R T} {e : Expr}
theorem spoil_ow {s : Sl} {t : T} (h : spoil1 s = .ow t ∨ spoil1 s = .io t) : s = spoil1 s := by
  cases s with
  | un => rcases h with h | h <;> cases h
  | fz u =>
    unfold spoil1 at h
    dsimp only at h
    split at h <;> rcases h with h | h <;> cases h
  | gd g u =>
    cases g with
    | old => rcases h with h | h <;> cases h
    | new d =>
      unfold spoil1 at h
      dsimp only at h
      split at h <;> rcases h with h | h <;> cases h
  | ow u =>
    cases u with
    | lst ts =>
      by_cases hf : ts.all T.isFlat = true
      · unfold spoil1; dsimp only; rw [if_pos hf]
      · unfold spoil1 at h; dsimp only at h; rw [if_neg hf] at h; rcases h with h | h <;> cases h
    | dct ks ts =>
      by_cases hf : ts.all T.isFlat = true
      · unfold spoil1; dsimp only; rw [if_pos hf]
      · unfold spoil1 at h; dsimp only at h; rw [if_neg hf] at h; rcases h with h | h <;> cases h
    | set S => rfl
    | _ => rcases h with h | h <;> cases h
  | io u =>
    cases u with
    | lst ts =>
      by_cases hf : ts.all T.isFlat = true
      · unfold spoil1; dsimp only; rw [if_pos hf]
      · unfold spoil1 at h; dsimp only at h; rw [if_neg hf] at h; rcases h with h | h <;> cases h
    | _ => rcases h with h | h <;> cases h
theorem RE.spoil {q : Addr} (r : RE c O H σ ρ) (hg : ∀ p, c.g = some p → p ∈ c.OO) (hq : q ∉ O) (h0 : c.H0 q = none) (hk : ∀ p o, H p = some o → p ≠ q → H' p = some o) (hq' : H q ≠ none → H' q ≠ none) : RE c O H' σ (spoil ρ) := by
  have get : ∀ (i : Nat) s, (TL.spoil ρ)[i]? = some s → ∃ s0, ρ[i]? = some s0 ∧ s = spoil1 s0 := fun i s h => by
    unfold TL.spoil at h
    rw [List.getElem?_map] at h
    cases z : ρ[i]? with
    | none => rw [z] at h; cases h
    | some s0 => rw [z] at h; cases h; exact ⟨s0, rfl, rfl⟩
  have mono : ∀ p, H p ≠ none → H' p ≠ none := fun p e => by
    by_cases h : p = q
    · rw [h] at e ⊢; exact hq' e
    · cases z : H p with
      | none => exact absurd z e
      | some o => rw [hk p o z h]; exact fun z => nomatch z
  have frame : ∀ p o, c.H0 p = some o → c.g ≠ some p → H' p = some o := fun p o e n => hk p o (r.frame p o e n) fun z => by rw [z, h0] at e; cases e
  have ca : Car c.OO c.H0 O H' := fun p o e n => ⟨frame p o e fun z => n (hg p z), fun z => by
    rcases r.onew p z with y | y
    · exact n y
    · rw [e] at y; cases y⟩
  have ne : ∀ a ∈ O, a ≠ q := fun a ha z => hq (z ▸ ha)
  refine ⟨by rw [r.len]; simp [TL.spoil], fun i s v h1 h2 => ?_, fun i j p t u h1 h2 h3 h4 => ?_, fun a ha => mono a (r.trk a ha), frame, fun p e => mono p (r.kept p e), r.gtrk, r.outer, r.otrk, r.onew⟩
  · obtain ⟨s0, e0, es⟩ := get i s h1
    have z := r.slots i s0 v e0 h2
    subst es
    unfold spoil1
    split
    · rename_i ts
      split
      · rename_i hf
        obtain ⟨a, e, m, hz, ⟨vs, hv, rv⟩⟩ := z
        exact ⟨a, e, m, hz, vs, hk a _ hv (ne a m), Reps.flat_any hf rv⟩
      · trivial
    · rename_i ts
      split
      · rename_i hf
        obtain ⟨a, e, m, hz, ⟨vs, hv, rv⟩⟩ := z
        exact ⟨a, e, m, hz, vs, hk a _ hv (ne a m), Reps.flat_any hf rv⟩
      · trivial
    · rename_i ks ts
      split
      · rename_i hf
        obtain ⟨a, e, m, hz, ⟨kvs, hv, hks, rv⟩⟩ := z
        exact ⟨a, e, m, hz, kvs, hk a _ hv (ne a m), hks, Reps.flat_any hf rv⟩
      · trivial
    · rename_i S
      obtain ⟨a, e, m, hz, ⟨hs, f, hm, ha⟩⟩ := z
      exact ⟨a, e, m, hz, hs, f, hm, hk a _ ha (ne a m)⟩
    · rename_i t
      split
      · rename_i hf
        obtain ⟨x, e, h⟩ := z
        exact ⟨x, e, h.flat_any hf⟩
      · trivial
    · rename_i t
      obtain ⟨x, e, h, y⟩ := z
      exact ⟨x, e, Rep.car ca _ _ y, y⟩
    · rename_i g t _
      split
      · rename_i hf
        obtain ⟨x, e, h, y⟩ := z
        exact ⟨x, e, h.flat_any hf⟩
      · trivial
    · trivial
  · have cv : ∀ (i : Nat) t, ((TL.spoil ρ)[i]? = some (.ow t) ∨ (TL.spoil ρ)[i]? = some (.io t)) → (ρ[i]? = some (.ow t) ∨ ρ[i]? = some (.io t)) := fun i t h => by
      rcases h with h | h
      · obtain ⟨s0, e0, es⟩ := get i _ h
        have := spoil_ow (.inl es.symm : spoil1 s0 = .ow t ∨ _)
        rw [e0, this, ← es]; exact .inl rfl
      · obtain ⟨s0, e0, es⟩ := get i _ h
        have := spoil_ow (.inr es.symm : _ ∨ spoil1 s0 = .io t)
        rw [e0, this, ← es]; exact .inr rfl
    exact r.dist i j p t u h1 h2 (cv i t h3) (cv j u h4)

/-! ### what is new -/
def PoEW (c : C) (d : Nat) (O : List Addr) (H : Hp) (σ : Sg) (ρ : SE) (r : R T) (Q : VK) : Prop := match r with
  | .ok t ρ' => ∀ x H' O', RE c O' H' σ ρ' → Step O H σ ρ O' H' σ ρ' → Rep c.K c.w O' H' t x → NewT c.H0 H' d t x → Q x H'
  | .ex n t => c.WT n t
  | .bad => False
def tEW (c : C) (d : Nat) (f : SE → R T) : TE := fun σ H Q => ∃ ρ O, RE c O H σ ρ ∧ PoEW c d O H σ ρ (f ρ) Q
def PoEWA (c : C) (d : Nat) (O : List Addr) (H : Hp) (σ : Sg) (ρ : SE) (r : R (List T)) (Q : List V → Hp → Prop) : Prop := match r with
  | .ok ts ρ' => ∀ xs H' O', RE c O' H' σ ρ' → Step O H σ ρ O' H' σ ρ' → Reps c.K c.w O' H' ts xs → (∀ (i : Nat) t x, ts[i]? = some t → xs[i]? = some x → NewT c.H0 H' d t x) → Q xs H'
  | .ex n t => c.WT n t
  | .bad => False
def tEWA (c : C) (d : Nat) (f : SE → R (List T)) : TA := fun σ H Q => ∃ ρ O, RE c O H σ ρ ∧ PoEWA c d O H σ ρ (f ρ) Q
theorem isEWA {d : Nat} {Q : List V → Hp → Prop} : IsR c (PoEWA c d O H σ ρ · Q) := ⟨fun _ _ h => h, fun h => h⟩
theorem isEW {d : Nat} {Q : VK} : IsR c (PoEW c d O H σ ρ · Q) := ⟨fun _ _ h => h, fun h => h⟩
theorem PoEW.bind {d : Nat} {β : Type} {P : R β → Prop} (ip : IsR c P) {r : R T} {n : T → SE → R β} {Q : VK} (h : P (r.bind n))
    (q : ∀ t ρ1 x H1 O1, RE c O1 H1 σ ρ1 → Step O H σ ρ O1 H1 σ ρ1 → Rep c.K c.w O1 H1 t x → NewT c.H0 H1 d t x → P (n t ρ1) → Q x H1) : PoEW c d O H σ ρ r Q := by
  cases r with
  | ok t ρ1 => exact fun x H1 O1 re s b nw => q t ρ1 x H1 O1 re s b nw h
  | ex n t => exact ip.ex _ _ h
  | bad => exact ip.bad h
theorem PoEWA.bind {d : Nat} {β : Type} {P : R β → Prop} (ip : IsR c P) {r : R (List T)} {n : List T → SE → R β} {Q : List V → Hp → Prop} (h : P (r.bind n))
    (q : ∀ t ρ1 x H1 O1, RE c O1 H1 σ ρ1 → Step O H σ ρ O1 H1 σ ρ1 → Reps c.K c.w O1 H1 t x → (∀ (i : Nat) u y, t[i]? = some u → x[i]? = some y → NewT c.H0 H1 d u y) → P (n t ρ1) → Q x H1) : PoEWA c d O H σ ρ r Q := by
  cases r with
  | ok t ρ1 => exact fun x H1 O1 re s b nw => q t ρ1 x H1 O1 re s b nw h
  | ex n t => exact ip.ex _ _ h
  | bad => exact ip.bad h
/-- what is given new is new at its top -/
theorem ew_n (h : PE X e (tE c true f)) : PE X e (tEW c 1 f) := PEm h fun σ H Q ⟨ρ, O, re, po⟩ => ⟨ρ, O, re, by
  cases q : f ρ with
  | ok t ρ1 =>
    rw [q] at po
    intro x H1 O1 re1 s1 v fr
    obtain ⟨O2, r2, v2, st⟩ := v.frz re1 re.trk s1 fr
    refine po x H1 O2 r2 st v2 ?_
    obtain ⟨p, e, hp, n, h0, o⟩ := v
    cases t with
    | lst ts => obtain ⟨vs, hv, rv⟩ := o; exact ⟨p, vs, e, h0, hv, fun i t x h1 h2 => ⟨trivial, fun ⟨us, et⟩ ex => by
        obtain ⟨y, h3, h4⟩ := rv.get h1
        rw [h2] at h3; cases h3
        subst et; subst ex
        obtain ⟨a', _, ea, na, _⟩ := of_lst h4
        cases ea
        exact na hp⟩⟩
    | _ => trivial
  | ex n t => rw [q] at po; exact po
  | bad => rw [q] at po; exact po⟩
/-- what is no list -/
def eNoL (f : SE → R T) : SE → R T := fun ρ => (f ρ).bind fun t ρ1 => match t with
  | .lst _ => .bad
  | t => .ok t ρ1
theorem newT_noL {H0 : Hp} : ∀ (d : Nat) {t : T} {x : V}, (∀ ts, t ≠ .lst ts) → NewT H0 H d t x
  | 0, _, _, _ => trivial
  | d + 1, t, x, h => by
    cases t with
    | lst ts => exact absurd rfl (h ts)
    | _ => trivial
theorem ew_flat (d : Nat) (h : PE X e (tE c false f)) : PE X e (tEW c d (eNoL f)) := PEm h fun σ H Q ⟨ρ, O, re, po⟩ => ⟨ρ, O, re, PoE.bind isEW po fun t ρ1 x H1 O1 re1 s1 v1 _ po1 => by
  cases t with
  | lst ts => exact po1.elim
  | non => exact po1 x H1 O1 re1 s1 v1 (newT_noL d fun _ z => nomatch z)
  | bl b => exact po1 x H1 O1 re1 s1 v1 (newT_noL d fun _ z => nomatch z)
  | int b => exact po1 x H1 O1 re1 s1 v1 (newT_noL d fun _ z => nomatch z)
  | str b => exact po1 x H1 O1 re1 s1 v1 (newT_noL d fun _ z => nomatch z)
  | tup b => exact po1 x H1 O1 re1 s1 v1 (newT_noL d fun _ z => nomatch z)
  | dct b _ => exact po1 x H1 O1 re1 s1 v1 (newT_noL d fun _ z => nomatch z)
  | set b => exact po1 x H1 O1 re1 s1 v1 (newT_noL d fun _ z => nomatch z)
  | fn b => exact po1 x H1 O1 re1 s1 v1 (newT_noL d fun _ z => nomatch z)
  | scr b => exact po1 x H1 O1 re1 s1 v1 (newT_noL d fun _ z => nomatch z)
  | ty b => exact po1 x H1 O1 re1 s1 v1 (newT_noL d fun _ z => nomatch z)⟩
theorem ew_any (h : PE X e (tE c false f)) : PE X e (tEW c 0 f) := PEm h fun σ H Q ⟨ρ, O, re, po⟩ => ⟨ρ, O, re, by
  cases q : f ρ with
  | ok t ρ1 => rw [q] at po; exact fun x H1 O1 re1 s1 v _ => po x H1 O1 re1 s1 v trivial
  | ex n t => rw [q] at po; exact po
  | bad => rw [q] at po; exact po⟩
variable {d : Nat} {es : List Expr} {fs : SE → R (List T)} {pos : Pos}
theorem ewa_nil : PA X [] (tEWA c d eNil) := PAm pa_nil fun σ H Q ⟨ρ, O, re, po⟩ => po [] H O re Step.refl Reps.nil fun i t x h => by cases h
theorem ewa_cons (ha : PE X e (tEW c d f)) (hr : PA X es (tEWA c d fs)) (hs : starEach (e :: es) X.env = (false, eval e X.env) :: starEach es X.env := by rfl) : PA X (e :: es) (tEWA c d (eCons f fs)) :=
  PAm (pa_cons ha hr hs) fun σ H Q ⟨ρ, O, re, po⟩ => ⟨ρ, O, re, PoEW.bind isEWA po fun t ρ1 x H1 O1 re1 s1 v1 n1 po1 => ⟨ρ1, O1, re1, PoEWA.bind isEWA po1 fun ts ρ2 xs H2 O2 re2 s2 b2 n2 po2 =>
    po2 (x :: xs) H2 O2 re2 (s1.th re s2) (Reps.cons (Rep.car (re1.car s2) _ _ v1) b2) fun i u y h1 h2 => by
      cases i with
      | zero => cases h1; cases h2; exact NewT.car (re1.car s2) d _ _ v1 n1
      | succ i => exact n2 i u y (by simpa using h1) (by simpa using h2)⟩⟩
theorem ew_lst (h : PA X es (tEWA c d fs)) : PE X (.List es pos) (tEW c (d + 1) (eLst fs)) := PEm (pe_lst h) fun σ H Q ⟨ρ, O, re, po⟩ => ⟨ρ, O, re, PoEWA.bind isEW po fun ts ρ1 xs H1 O1 re1 s1 b1 n1 po1 => by
  by_cases z : small ts = true
  · rw [if_pos z] at po1
    refine ⟨by rw [← b1.len]; exact small_ok z, fun p n => ?_⟩
    have ca : Car O1 H1 O1 (upd H1 p (.lst xs)) := car_same (same_upd n)
    refine po1 _ _ O1 (re1.same (same_upd n)) (s1.th re (Step.same (same_upd n))) (by unfold Rep; exact ⟨p, xs, rfl, fun z => re1.trk p z n, upd_same, Reps.car ca _ _ b1⟩) ⟨p, xs, rfl, re1.h0none n, upd_same, fun i t x h1 h2 => ?_⟩
    obtain ⟨y, h3, h4⟩ := b1.get h1
    rw [h2] at h3; cases h3
    refine ⟨NewT.car ca d t x h4 (n1 i t x h1 h2), fun ⟨us, et⟩ ex => ?_⟩
    subst et; subst ex
    obtain ⟨a', _, ea, na, ha', _⟩ := of_lst h4
    cases ea
    rw [n] at ha'; cases ha'
  · rw [if_neg z] at po1; exact po1.elim⟩
/-- name = .., new down to a depth -/
def sAsgW (i : Nat) (d : Nat) (f : SE → R T) : SE → SO := fun ρ => (f ρ).thn fun t ρ1 => if i < ρ1.length then .nx (ρ1.set i (.gd (.new d) t)) else .bad
theorem no_gd {u : T} {g : Gd} : (∀ t, Sl.gd g u ≠ .ow t) ∧ ∀ t, Sl.gd g u ≠ .io t := And.intro (fun _ z => by cases z) (fun _ z => by cases z)
theorem es_asgW {i : Nat} {te : TE} (h : PS X st (tAsg te (gName i))) (m : ∀ σ H Q, tEW c d f σ H Q → te σ H Q) : PS X st (tS c (sAsgW i d f)) := PSm h fun D σ H ⟨ρ, O, re, po⟩ =>
  m _ _ _ ⟨ρ, O, re, by
    unfold sAsgW at po
    cases q : f ρ with
    | ex n t => rw [q] at po; exact po
    | bad => rw [q] at po; exact po
    | ok t ρ1 =>
      rw [q] at po
      have po : PoS c O H σ ρ (if i < ρ1.length then .nx (ρ1.set i (.gd (.new d) t)) else .bad) D := po
      intro x H1 O1 re1 s1 v nw
      split at po
      · exact po _ _ O1 (re1.put (s := .gd (.new d) t) ⟨x, rfl, v, nw⟩ no_gd) ⟨s1.keep, fun p z => s1.own p (ow_put no_gd z re1.len), s1.sub, s1.hold, s1.mono⟩
      · exact po.elim⟩

/-! ### writing into it -/
theorem spoil1_idem (s : Sl) : spoil1 (spoil1 s) = spoil1 s := by
  cases s with
  | un => rfl
  | fz u => cases h : u.isFlat <;> simp [spoil1, h]
  | gd g u =>
    cases g with
    | old => rfl
    | new d => cases h : u.isFlat <;> simp [spoil1, h]
  | ow u =>
    cases u with
    | lst ts => by_cases h : ts.all T.isFlat = true <;> simp only [spoil1, h, if_true, if_false]
                all_goals simp_all
    | dct ks ts => by_cases h : ts.all T.isFlat = true <;> simp only [spoil1, h, if_true, if_false]
                   all_goals simp_all
    | _ => rfl
  | io u =>
    cases u with
    | lst ts => by_cases h : ts.all T.isFlat = true <;> simp only [spoil1, h, if_true, if_false]
                all_goals simp_all
    | _ => rfl
theorem spoil_idem (ρ : SE) (k : Nat) : TL.spoil ((TL.spoil ρ).set k .un) = (TL.spoil ρ).set k .un := by
  unfold TL.spoil
  rw [List.map_set, List.map_map]
  have : (spoil1 ∘ spoil1) = spoil1 := funext spoil1_idem
  rw [this]; rfl
theorem RE.unk (r : RE c O H σ ρ) (k : Nat) (x : Option V) : RE c O H (σ.set k x) (ρ.set k .un) := r.put (s := .un) True.intro no_un
theorem RE.unk' (r : RE c O H σ ρ) (k : Nat) : RE c O H σ (ρ.set k .un) := by
  by_cases hk : k < σ.length
  · have z := r.unk k σ[k]
    rw [set_same_get (List.getElem?_eq_getElem hk)] at z
    exact z
  · rw [List.set_eq_of_length_le (by have := r.len; omega)]; exact r
def shortL (n : Nat) : T → Bool
  | .lst us => decide (us.length + n < 16777216)
  | _ => false
/-- for x in told[:n]: x.append(..) -/
def sSpFor (j n k : Nat) : SE → SO := fun ρ => match ρ[j]? with
  | some (.gd (.new (_ + 2)) (.lst ts)) => if (ts.take n).all (shortL n) && decide (k < ρ.length ∧ ts.length ≤ 1000) then .nx ((spoil ρ).set k .un) else .bad
  | _ => .bad
theorem new_item {d : Nat} {ts us : List T} {x : V} {i : Nat} (r : Rep c.K c.w O H (.lst ts) x) (nw : NewT c.H0 H (d + 2) (.lst ts) x) (ht : ts[i]? = some (.lst us)) :
    ∃ a vs q ws, x = .ref a ∧ H a = some (.lst vs) ∧ vs[i]? = some (.ref q) ∧ q ≠ a ∧ q ∉ O ∧ c.H0 q = none ∧ H q = some (.lst ws) ∧ ws.length = us.length := by
  obtain ⟨a, vs, e, _, ha, hi⟩ := nw
  obtain ⟨a', vs', e', na, ha', rs⟩ := of_lst r
  rw [e] at e'; cases e'
  rw [ha] at ha'; cases ha'
  obtain ⟨y, h3, h4⟩ := rs.get ht
  obtain ⟨⟨q, ws, ey, hq0, hq, _⟩, hne⟩ := hi i _ y ht h3
  subst ey
  obtain ⟨q', ws', eq', nq, hq', rq⟩ := of_lst h4
  cases eq'
  rw [hq] at hq'; cases hq'
  exact ⟨a, vs, q, ws, e, ha, h3, fun z => hne ⟨us, rfl⟩ (by rw [z]), nq, hq0, hq, rq.len.symm⟩
theorem zs_spFor {j n k : Nat} {wi : TI} {KK : PySem.W.Frag} {v0 : V} (hgO : ∀ p, c.g = some p → p ∈ c.OO) (h : PS X st (tFor wi (gName k) (tDrop (tBM KK "list" rAppend (tVar k) (tCons (tC v0) tNil)))))
    (mi : ∀ σ H W a vs, σ[j]? = some (some (.ref a)) → H a = some (.lst vs) → vs.length ≤ 1000 → (∀ p H1, Same H H1 → H1 p = some (.lst (vs.take n)) → (p = a ∨ H p = none) → W (Itl c.K p) H1) → wi σ H W) : PS X st (tZ c (sSpFor j n k)) := PSm h fun D σ H ⟨ρ, O, re, po⟩ => by
  unfold sSpFor at po
  split at po
  · rename_i d ts eρ
    split at po
    · rename_i hall
      rw [Bool.and_eq_true] at hall
      obtain ⟨hk, hts⟩ : k < ρ.length ∧ ts.length ≤ 1000 := of_decide_eq_true hall.2
      have hall := hall.1
      obtain ⟨v, hv⟩ := slot_some re eρ
      obtain ⟨x, ex, rx, nw⟩ := re.slots j _ v eρ hv
      subst ex
      obtain ⟨a, vs, ea, na, ha, rs⟩ := of_lst rx
      subst ea
      have item : ∀ (i : Nat) (t : T), (ts.take n)[i]? = some t → ∃ (us : List T) (q : Addr) (ws : List V), t = .lst us ∧ us.length + n < 16777216 ∧ vs[i]? = some (.ref q) ∧ q ≠ a ∧ q ∉ O ∧ c.H0 q = none ∧ H q = some (.lst ws) ∧ ws.length = us.length := fun i t ht => by
        have hm := List.all_eq_true.mp hall t (List.mem_of_getElem? ht)
        have hts : ts[i]? = some t := by
          rw [List.getElem?_take] at ht
          split at ht
          · exact ht
          · cases ht
        cases t with
        | lst us =>
          obtain ⟨a', vs', q, ws, e1, e2, e3, e4, e5, e6, e7, e8⟩ := new_item rx nw hts
          cases e1
          rw [ha] at e2; cases e2
          exact ⟨us, q, ws, rfl, of_decide_eq_true hm, e3, e4, e5, e6, e7, e8⟩
        | _ => cases hm
      refine mi σ H _ a vs hv ha (by rw [← rs.len]; exact hts) fun p H1 s1 hp hpa => ?_
      have hlen : (vs.take n).length = (ts.take n).length := by rw [List.length_take, List.length_take, rs.len]
      have hln : (ts.take n).length ≤ n := by rw [List.length_take]; omega
      have qp : ∀ (i : Nat) (t : T), (ts.take n)[i]? = some t → ∀ q : Addr, vs[i]? = some (.ref q) → q ≠ p := fun i t ht q hq z => by
        obtain ⟨us, q', ws, _, _, e3, e4, _, _, e7, _⟩ := item i t ht
        rw [hq] at e3; cases e3
        rcases hpa with y | y
        · exact e4 (by rw [z, y])
        · rw [z, y] at e7; cases e7
      have re0 : RE c O H1 σ ((TL.spoil ρ).set k .un) := by
        have z := RE.spoil (q := p) (H' := H1) (re.same s1) hgO
        have z2 : RE c O H1 σ (TL.spoil ρ) := by
          by_cases hi : ∃ t, (ts.take n)[0]? = some t
          · obtain ⟨t, ht⟩ := hi
            obtain ⟨us, q, ws, _, _, _, _, e5, e6, e7, _⟩ := item 0 t ht
            exact RE.spoil (q := q) (re.same s1) hgO e5 e6 (fun p o e _ => e) fun z => z
          · obtain ⟨a2, _, e2, h02, _⟩ := id nw
            cases e2
            exact RE.spoil (q := a) (re.same s1) hgO na h02 (fun p o e _ => e) fun z => z
        exact z2.unk' k
      refine ⟨fun i m σ' H' => i + m = (ts.take n).length ∧ RE c O H' σ' ((TL.spoil ρ).set k .un) ∧ H' p = some (.lst (vs.take n)) ∧ ∀ (l : Nat) (t : T), (ts.take n)[l]? = some t → ∀ q : Addr, vs[l]? = some (.ref q) → ∃ ws : List V, H' q = some (.lst ws) ∧ ∀ us : List T, t = .lst us → ws.length ≤ us.length + i, ⟨(ts.take n).length, by omega, re0, hp, fun l t ht q hq => ?_⟩, fun i m σ' H' hW => ?_⟩
      · obtain ⟨us, q', ws, e1, _, e3, _, _, _, e7, e8⟩ := item l t ht
        rw [hq] at e3; cases e3
        exact ⟨ws, s1 _ _ e7, fun us' e => by rw [e1] at e; cases e; omega⟩
      · obtain ⟨him, rei, hpi, hqs⟩ := hW
        by_cases hi : i < (ts.take n).length
        · refine .inr ?_
          have hget : (ts.take n)[i]? = some (ts.take n)[i] := List.getElem?_eq_getElem hi
          obtain ⟨us, q, ws0, et, hsh, hvq, _, nq, hq0, hqH, _⟩ := item i _ hget
          obtain ⟨ws, hws, hwl⟩ := hqs i _ hget q hvq
          have hvt : (vs.take n)[i]? = some (.ref q) := by rw [List.getElem?_take, if_pos (by omega)]; exact hvq
          refine ⟨⟨vs.take n, .ref q, SqL.of hpi, hvt⟩, fun σ2 H2 => (i + 1) + (m - 1) = (ts.take n).length ∧ RE c O H2 σ2 ((TL.spoil ρ).set k .un) ∧ H2 p = some (.lst (vs.take n)) ∧ ∀ (l : Nat) (t : T), (ts.take n)[l]? = some t → ∀ q : Addr, vs[l]? = some (.ref q) → ∃ ws : List V, H2 q = some (.lst ws) ∧ ∀ us : List T, t = .lst us → ws.length ≤ us.length + (i + 1), fun σ2 H2 hN => ⟨m - 1, by omega, hN⟩, fun x H2 hy => ?_⟩
          obtain ⟨e2, hx⟩ := hy
          subst e2
          have := hx _ (SqL.of hpi)
          rw [hvt] at this
          cases this
          have hk' : k < σ'.length := by rw [rei.len, List.length_set]; unfold TL.spoil; rw [List.length_map]; exact hk
          have hwl := hwl us et
          have hH2 : ∀ p' o, H2 p' = some o → p' ≠ q → upd H2 q (.lst (ws ++ [v0])) p' = some o := fun p' o e z => by rw [upd_ne z]; exact e
          have rs2 : RE c O (upd H2 q (.lst (ws ++ [v0]))) σ' ((TL.spoil ρ).set k .un) := by
            have z := RE.spoil (q := q) rei hgO nq hq0 hH2 fun _ => by rw [upd_same]; exact fun z => nomatch z
            rw [spoil_idem] at z
            exact z
          have rs3 := rs2.unk k (some (.ref q))
          rw [List.set_set] at rs3
          refine ⟨.ref q, List.getElem?_set_self hk', .inl ⟨rfl, ws, SqL.of hws⟩, q, ws, v0, rfl, rfl, hws, by rw [sizeLine_eq]; omega, by omega, rs3, ?_, fun l t ht q2 hq2 => ?_⟩
          · rw [upd_ne (qp i _ hget q hvq).symm]; exact hpi
          · by_cases z : q2 = q
            · subst z
              obtain ⟨ws', hws', hl'⟩ := hqs l t ht q2 hq2
              rw [hws] at hws'; cases hws'
              exact ⟨ws ++ [v0], upd_same, fun us' e => by have := hl' us' e; rw [List.length_append, List.length_singleton]; omega⟩
            · obtain ⟨ws', hws', hl'⟩ := hqs l t ht q2 hq2
              exact ⟨ws', by rw [upd_ne z]; exact hws', fun us' e => by have := hl' us' e; omega⟩
        · refine .inl ⟨⟨vs.take n, SqL.of hpi, by omega⟩, po σ' H' O rei⟩
    · exact po.elim
  · exact po.elim
end
end TL

set_option Elab.async false
set_option linter.all false
set_option maxRecDepth 100000
/-! TLN: defs whose bodies write into new things; the walks of such. -/
namespace TL
open PySem PySem.Spec L2
section
variable {P : Program} {w : World} {K : PySem.W.Frag} {mg : Str → Option Value} {base : Heap}
/-- THE RULE of a def that changes nothing -/
theorem ok_pureZ {x : Str} {st : Stmt} {ps N : List Str} {j : Nat} {k : Bool} {g : SE → SO} (D : HasDef K mg x st ps) (S : FnScope N ps (defScope st))
    (hbody : ∀ (f : Addr) (cdv : Value) (A : Around) (outer : List Env) (s : Shared) (H : Hp) (E : XK) (O : List Addr) (WT : Str → T → Prop), RoomG j (A.deeper (PyProof.Rows.envOfC x (defScope st) s.heap.objs.size f cdv)) →
      Lets (cxOf (L2.CX P w) P w K mg base N x (defScope st) f cdv A outer s H E) ⟨K, w, H, none, O, WT⟩ (fun cls d _ H' => E cls d H') →
      PassesOwn (model P w) (cxOf (L2.CX P w) P w K mg base N x (defScope st) f cdv A outer s H E).A (cxOf (L2.CX P w) P w K mg base N x (defScope st) f cdv A outer s H E).env (cxOf (L2.CX P w) P w K mg base N x (defScope st) f cdv A outer s H E).xe →
      PSs (cxOf (L2.CX P w) P w K mg base N x (defScope st) f cdv A outer s H E) (defBody st) (tZ ⟨K, w, H, none, O, WT⟩ g)) : Fn P w K mg base (j + 1) x st ps (spP K w mg k (runP k N.length ps.length g)) := by
  obtain ⟨f, fd, F, hm, b⟩ := D
  refine ⟨f, fd, okG F S (fun vs H Q E h => ?_) (fun cdv A outer s H vs Q E hr h => ?_), F, hm, b⟩
  · obtain ⟨O, ts, _, r, po⟩ := h
    unfold runP at po
    by_cases hl : ts.length = ps.length
    · rw [← r.len]; exact hl
    · rw [if_neg hl] at po; exact po.elim
  · obtain ⟨O, ts, tr, r, po⟩ := h
    unfold runP at po
    by_cases hl : ts.length = ps.length
    rotate_left
    · rw [if_neg hl] at po; exact po.elim
    rw [if_pos hl] at po
    refine ⟨_, hbody f cdv A outer s H E O (fun e t => ∀ cls dd H' x, mg e = some cls → (∀ p o, H p = some o → H' p = some o) → H' dd = some (.xd [("value", x)]) → Rep K w O H' t x → E cls (some dd) H') hr
      ⟨takes_of rfl rfl rfl rfl, fun e t wt cls dd σ H' x h1 h2 h3 h4 => wt cls dd H' x h1 (fun p o q => h2 p o q (fun z => nomatch z)) h3 h4⟩ (passes_of rfl), ?_⟩
    refine ⟨ini N.length ts, O, ini_re rfl rfl rfl tr r, ?_⟩
    unfold outP at po
    cases q : g (ini N.length ts) with
    | rt k' t ρ =>
      rw [q] at po
      intro x' σ' H' O' re v
      have sm : Same H H' := fun p o e => re.frame p o e (fun z => nomatch z)
      have ou : ∀ a ∈ O, a ∈ O' := re.outer
      cases k' with
      | false =>
        cases k with
        | true => exact po.elim
        | false => exact po x' H' sm (Rep.less v ou)
      | true =>
        obtain ⟨p, e, hp, n, h0, o⟩ := v
        subst e
        have op : Own K w (p :: O) H' t p := o.less fun b hb => by
          rcases List.mem_cons.mp hb with z | z
          · rw [z]; exact hp
          · exact ou b z
        cases k with
        | true => exact po p H' sm h0 op
        | false => exact po _ H' sm (new_rep tr h0 op)
    | nx ρ =>
      rw [q] at po
      intro σ' H' O' re
      have sm : Same H H' := fun p o e => re.frame p o e (fun z => nomatch z)
      cases k with
      | true => exact po.elim
      | false => exact po .non H' sm rep_non
    | ex e t =>
      rw [q] at po
      exact fun cls dd H' x h1 h2 h3 h4 => po cls dd H' x h1 h2 h3 h4
    | bk ρ => rw [q] at po; exact po.elim
    | ct ρ => rw [q] at po; exact po.elim
    | bad => rw [q] at po; exact po.elim
/-- THE RULE of a def that changes its first argument -/
theorem ok_ioZ {x : Str} {st : Stmt} {ps N : List Str} {j : Nat} {k : Bool} {g : SE → SO} (D : HasDef K mg x st ps) (S : FnScope N ps (defScope st)) (hNl : 0 < N.length)
    (hbody : ∀ (f : Addr) (cdv : Value) (A : Around) (outer : List Env) (s : Shared) (H : Hp) (E : XK) (O : List Addr) (a : Addr), a ∈ O → RoomG j (A.deeper (PyProof.Rows.envOfC x (defScope st) s.heap.objs.size f cdv)) →
      Lets (cxOf (L2.CX P w) P w K mg base N x (defScope st) f cdv A outer s H E) ⟨K, w, H, some a, O, fun _ _ => False⟩ (fun cls d _ H' => E cls d H') →
      PassesOwn (model P w) (cxOf (L2.CX P w) P w K mg base N x (defScope st) f cdv A outer s H E).A (cxOf (L2.CX P w) P w K mg base N x (defScope st) f cdv A outer s H E).env (cxOf (L2.CX P w) P w K mg base N x (defScope st) f cdv A outer s H E).xe →
      PSs (cxOf (L2.CX P w) P w K mg base N x (defScope st) f cdv A outer s H E) (defBody st) (tZ ⟨K, w, H, some a, O, fun _ _ => False⟩ g)) : Fn P w K mg base (j + 1) x st ps (spI K w k (runI k N.length ps.length g)) := by
  obtain ⟨f, fd, F, hm, b⟩ := D
  refine ⟨f, fd, okG F S (fun vs H Q E h => ?_) (fun cdv A outer s H vs Q E hr h => ?_), F, hm, b⟩
  · obtain ⟨O, a, t0, ts, vr, _, _, e, _, r, po⟩ := h
    subst e
    unfold runI at po
    by_cases hl : ts.length + 1 = ps.length
    · rw [List.length_cons, ← r.len]; exact hl
    · rw [if_neg hl] at po; exact po.elim
  · obtain ⟨O, a, t0, ts, vr, tr, hgO, ev, how, r, po⟩ := h
    subst ev
    unfold runI at po
    by_cases hl : ts.length + 1 = ps.length
    rotate_left
    · rw [if_neg hl] at po; exact po.elim
    rw [if_pos hl] at po
    refine ⟨_, hbody f cdv A outer s H E O a hgO hr ⟨takes_of rfl rfl rfl rfl, fun e t wt => wt.elim⟩ (passes_of rfl), ?_⟩
    have z := ini_re' (c := ⟨K, w, H, some a, O, fun _ _ => False⟩) (N := N.length - 1) rfl (fun p e => by cases e; exact how.some) rfl tr r
    have z2 := z.cons_io (fun i t => ini_no i t) hgO rfl how
    have eσ : (some (V.ref a) :: (vr.map some ++ List.replicate (N.length - 1 - vr.length) none) : Sg) = (V.ref a :: vr).map some ++ List.replicate (N.length - (V.ref a :: vr).length) none := by
      rw [List.map_cons, List.cons_append, List.length_cons]
      have : N.length - 1 - vr.length = N.length - (vr.length + 1) := by omega
      rw [this]
    rw [eσ] at z2
    refine ⟨iniI N.length t0 ts, O, z2, ?_⟩
    unfold outI at po
    cases q : g (iniI N.length t0 ts) with
    | rt k' t ρ =>
      rw [q] at po
      dsimp only at po
      intro x' σ' H' O' re v
      have ou : ∀ a ∈ O, a ∈ O' := re.outer
      cases q0 : ρ[0]? with
      | none => rw [q0] at po; exact po.elim
      | some s0 =>
        rw [q0] at po
        cases s0 with
        | io u =>
          obtain ⟨v0, hv0⟩ := slot_some re q0
          obtain ⟨a', e', m', hg', ow'⟩ := re.slots 0 _ _ q0 hv0
          cases hg'
          have kp : ∀ p o, H p = some o → p ≠ a → H' p = some o := fun p o e n => re.frame p o e fun z => n (Option.some.inj z).symm
          have owO : Own K w O H' u a := ow'.less ou
          cases k' with
          | false =>
            cases k with
            | true => exact po.elim
            | false => exact po x' H' kp ⟨Rep.less v ou, owO⟩
          | true =>
            obtain ⟨p, e, hp, n, h0, o⟩ := v
            subst e
            have le : ∀ b ∈ p :: O, b ∈ O' := fun b hb => by
              rcases List.mem_cons.mp hb with z | z
              · rw [z]; exact hp
              · exact ou b z
            have op : Own K w (p :: O) H' t p := o.less le
            cases k with
            | true => exact po _ H' kp ⟨p, rfl, h0, op, ow'.less le⟩
            | false => exact po _ H' kp ⟨new_rep tr h0 op, owO⟩
        | un => exact po.elim
        | fz u => exact po.elim
        | gd g u => exact po.elim
        | ow u => exact po.elim
    | nx ρ =>
      rw [q] at po
      dsimp only at po
      intro σ' H' O' re
      have ou : ∀ a ∈ O, a ∈ O' := re.outer
      cases q0 : ρ[0]? with
      | none => rw [q0] at po; exact po.elim
      | some s0 =>
        rw [q0] at po
        cases s0 with
        | io u =>
          obtain ⟨v0, hv0⟩ := slot_some re q0
          obtain ⟨a', e', m', hg', ow'⟩ := re.slots 0 _ _ q0 hv0
          cases hg'
          have kp : ∀ p o, H p = some o → p ≠ a → H' p = some o := fun p o e n => re.frame p o e fun z => n (Option.some.inj z).symm
          cases k with
          | true => exact po.elim
          | false => exact po .non H' kp ⟨rep_non, ow'.less ou⟩
        | un => exact po.elim
        | fz u => exact po.elim
        | gd g u => exact po.elim
        | ow u => exact po.elim
    | ex e t => rw [q] at po; exact po.elim
    | bk ρ => rw [q] at po; exact po.elim
    | ct ρ => rw [q] at po; exact po.elim
    | bad => rw [q] at po; exact po.elim

variable {X : Cx} {c : C} {st : Stmt} {tg e : Expr} {j n k : Nat} {v0 : V} {pos p2 : Pos} {kk : Int}
theorem zs_spFor0 {KK K2 : PySem.W.Frag} (hgO : ∀ p, c.g = some p → p ∈ c.OO) (h : PS X st (tFor (iList K2 (tVar j)) (gName k) (tDrop (tBM KK "list" rAppend (tVar k) (tCons (tC v0) tNil))))) (hK : K2 = c.K := by rfl) : PS X st (tZ c (sSpFor j 1000 k)) :=
  zs_spFor hgO h fun σ H W a vs h1 h2 h3 q => by
    refine ⟨.ref a, h1, a, rfl, ⟨vs, SqL.of h2⟩, ?_⟩
    rw [hK]
    exact q a H (Same.refl H) (by rw [List.take_of_length_le h3]; exact h2) (.inl rfl)
/-- for x in told[:n]: x.append(..) -/
theorem zs_spForS {KK K2 K3 : PySem.W.Frag} {n : Nat} (hgO : ∀ p, c.g = some p → p ∈ c.OO) (h : PS X st (tFor (iList K2 (tSl (rSlL K3) (tVar j) tNoPart (tPart (tC (.int (n : Int)))))) (gName k) (tDrop (tBM KK "list" rAppend (tVar k) (tCons (tC v0) tNil))))) (hK : K2 = c.K := by rfl) (hK3 : K3 = c.K := by rfl) : PS X st (tZ c (sSpFor j n k)) :=
  zs_spFor hgO h fun σ H W a vs h1 h2 h3 q => by
    refine ⟨.ref a, h1, (n : Int), rfl, a, vs, rfl, SqL.of h2, fun p hp => ⟨p, rfl, ⟨_, SqL.of upd_same⟩, ?_⟩⟩
    rw [hK]
    refine q p _ (same_upd hp) ?_ (.inr hp)
    rw [upd_same]
    unfold cutV HT.sIx
    have hn : ¬ ((n : Int) < 0) := by omega
    simp only [if_neg hn, Nat.sub_zero, List.drop_zero, Int.toNat_natCast]
    by_cases hl : n ≤ vs.length
    · rw [Nat.min_eq_left hl]
    · rw [Nat.min_eq_right (by omega), List.take_of_length_le (Nat.le_refl _), List.take_of_length_le (by omega)]
end
end TL

set_option Elab.async false
set_option linter.all false
set_option maxRecDepth 100000
/-! TLO: what the printer names. -/
namespace TL
open PySem PySem.Spec L2
section
variable {X : Cx} {K : PySem.W.Frag} {w : World} {c : C} {pos : Pos}
theorem pe_nv (i : Nat) {x : Str} (hN : X.N[i]? = some x := by rfl) (hv : Vis X.env.scope x := by first | exact Or.inl rfl | exact Or.inr (Or.inl rfl) | exact Or.inr (Or.inr rfl)) (hd : (x == ("__debug__" : Str)) = false := by decide)
    (hcd : (x == ("__classdict__" : Str)) = false := by decide) : PE X (.Name x pos) (tVar i) := pe_var hN hv hd hcd
def gLenA (ts : List T) : Option T := (gLen ts).orElse fun _ => gLenS ts
theorem call_lenA : CallR X (.builtin "len") (fun xs H Q => (∃ x n, xs = [x] ∧ LenV X.K x H n ∧ Q (.int n) H) ∨ rLenS X.w xs H Q) := CallR.or call_len cr_lenS
theorem ok_lenA : CallOk K w (fun xs H Q => (∃ x n, xs = [x] ∧ LenV K x H n ∧ Q (.int n) H) ∨ rLenS w xs H Q) gLenA := CallOk.or ok_len ok_lenS
def gSortedA (ts : List T) : Option T := (gSorted ts).orElse fun _ => gSortedSet ts
theorem call_sortedA (hc : X.calm = true) : CallR X (.builtin "sorted") (fun xs H Q => rSortedI X.K xs H Q ∨ rSortedSet X.w xs H Q) := CallR.or cr_sortedI (cr_sortedSet hc)
theorem new_sortedA : CallNew K w (fun xs H Q => rSortedI K xs H Q ∨ rSortedSet w xs H Q) gSortedA := CallNew.or new_sorted new_sortedSet
def gInA (t u : T) : Option Bool := (gIn t u).orElse fun _ => gInS t u
theorem or_inA : OpR X (compareOp .In) (fun x y H Q => rIn X.K false x y H Q ∨ rSIn X.w x y H Q) := op_in_seq.or or_sin
theorem ok_inA : BoOk K w (fun x y H Q => rIn K false x y H Q ∨ rSIn w x y H Q) gInA := BoOk.or ok_in ok_inS
def gNinS (t u : T) : Option Bool := (gInS t u).map not
theorem ok_ninS : BoOk K w (rSNotIn w) gNinS := by
  intro O H t u z x y Q tr a b e q
  unfold gNinS at e
  cases e1 : gInS t u with
  | none => rw [e1] at e; cases e
  | some z' =>
    rw [e1] at e; cases e
    obtain ⟨k, p, f, n, h1, h2, h3, h4⟩ := ok_inS (K := K) (w := w) O H t u z' x y (fun v _ => v = .bl z') tr a b e1 rfl
    refine ⟨k, p, f, n, h1, h2, h3, ?_⟩
    have : f k = z' := V.bl.inj h4
    rw [this]; exact q
def gNinA (t u : T) : Option Bool := (gNin t u).orElse fun _ => gNinS t u
theorem or_ninA : OpR X (compareOp .NotIn) (fun x y H Q => rIn X.K true x y H Q ∨ rSNotIn X.w x y H Q) := op_notIn_seq.or or_snotin
theorem ok_ninA : BoOk K w (fun x y H Q => rIn K true x y H Q ∨ rSNotIn w x y H Q) gNinA := BoOk.or ok_nin ok_ninS
theorem ev_ixD {o e : Expr} {fo fe : PEv → PR T} {j : Nat} (hr : RoomG j X.A) (ho : PE X o (tP c fo)) (he : PE X e (tP c fe)) (hs : PlainIx e := by exact fun _ _ => rfl) (hn : NoSl e := by exact fun _ _ => rfl) (hK : X.K = c.K := by rfl) : PE X (.Subscript o e pos) (tP c (pOp gDix fo fe)) :=
  ev_dix (hu_of hr.toRoom) ho he hs hn hK
theorem zss_frz {ss : List Stmt} {g : SE → SO} (j : Nat) (h : PSs X ss (tZ c g)) : PSs X ss (tZ c fun ρ => g (frz j ρ)) := PSsm h fun D σ H ⟨ρ, O, re, po⟩ => by
  obtain ⟨O', r, s⟩ := re.frz (j := j)
  exact ⟨_, O', r, po⟩
variable {P : Program} {mg : Str → Option Value} {base h : Heap}
theorem hasDef_mk {x : Str} {st : Stmt} {ps : List Str} {f : Addr} {oc : Value} {od an : Option Addr} {osl : Array (Option Value)} {kV doc pm cdv ct : Value} (KX : K.In h) (G : h.Ns mainGlobals mg) (a : PySem.W.nsIn K mainGlobals x = some (some (.ref f)))
    (l : K.lookup f = some ⟨oc, od, .func (PySem.W.fnOf x x (defArgs st) (defBody st) (defScope st) .none kV doc pm an cdv ct), osl⟩) (cc : PySem.W.codeIn K cdv x = true) (k : PySem.W.keepIn K (.ref f) = true)
    (b : ∀ (kV doc pm : Value) (an : Option Addr) (cdv ct : Value) (us : List Value), us.length = ps.length → bindArgs (PySem.W.fnOf x x (defArgs st) (defBody st) (defScope st) .none kV doc pm an cdv ct) ⟨us, []⟩ = pure (ps.zip us)) : HasDef K mg x st ps :=
  ⟨f, _, fun_mk l cc k, PySem.W.mg_of KX G a, (fun_mk l cc k).binds b⟩
theorem int_mk {x : Str} {i : Int} {t : Tok} (KX : K.In h) (G : h.Ns mainGlobals mg) (a : PySem.W.nsIn K mainGlobals x = some (some (.int i t))) : ∃ t, mg x = some (.int i t) := ⟨t, PySem.W.mg_of KX G a⟩
/-- what a law is to do -/
def spTrue (K : PySem.W.Frag) : Sp := fun vs H Q _ => ∃ (a : Addr) (ns : List Int), vs = [.ref a] ∧ ns.length ≤ 63 ∧ (∀ z ∈ ns, Builtin.Int.intBits z ≤ 1048576) ∧ Only H ∧ SqL K H a (ns.map V.int) ∧ ∀ H', Q (.bl true) H'
theorem scr_rep {a : Addr} {ns : List Int} {H : Hp} (ho : Only H) (hs : SqL K H a (ns.map V.int)) : Rep K w [] H (.scr (ns.map T.int)) (.ref a) := by
  unfold Rep
  refine ⟨a, _, rfl, ?_, reps_ints ns⟩
  rcases hs with (hs | ⟨o, hs⟩) | hs
  · rcases ho a with z | ⟨o, xs, z⟩
    · rw [hs] at z; cases z
    · rw [hs] at z; cases z
  · exact .inl ⟨o, hs, by simp⟩
  · exact .inr hs
theorem law_imp {j : Nat} {st : Stmt} {fa : Addr} {m : List T → PR T} (F : Fn P w K mg base j "law" st ["script"] (spP K w mg false m)) (hfa : mg "law" = some (.ref fa))
    (hm : ∀ ns : List Int, ns.length ≤ 63 → (∀ z ∈ ns, Builtin.Int.intBits z ≤ 1048576) → m [.scr (ns.map T.int)] = .ok (.bl true)) : ∃ fd, Binds K fd ["script"] [] ∧ FnOkG P w K mg base (L2.CX P w) j fa fd ["script"] (spTrue K) ∧ Fun K "law" "law" st fa fd := by
  obtain ⟨f, fd, F, Fu, e, b⟩ := F
  rw [hfa] at e
  cases e
  refine ⟨fd, b, F.imp fun vs H Q E ⟨a, ns, e1, hl, hb, ho, hs, q⟩ => ?_, Fu⟩
  subst e1
  refine ⟨[], [.scr (ns.map T.int)], by simp, Reps.cons (scr_rep ho hs) Reps.nil, ?_⟩
  rw [hm ns hl hb]
  intro x H' _ r
  rw [of_bl r]
  exact q H'
theorem law_end {k : Nat} {st : Stmt} {fa : Addr} {m : List T → PR T} (D : HasDef K mg "law" st ["script"]) (hfa : mg "law" = some (.ref fa)) (F : ∀ base : Heap, K.In base → base.Ns mainGlobals mg → Fn P w K mg base k "law" st ["script"] (spP K w mg false m))
    (hm : ∀ ns : List Int, ns.length ≤ 63 → (∀ z ∈ ns, Builtin.Int.intBits z ≤ 1048576) → m [.scr (ns.map T.int)] = .ok (.bl true))
    (hb : ∀ (kV doc pm : Value) (an : Option Addr) (cdv ct u : Value), bindArgs (PySem.W.fnOf "law" "law" (defArgs st) (defBody st) (defScope st) .none kV doc pm an cdv ct) ⟨[u], []⟩ = pure [(("script" : Str), u)]) :
    ∃ fd : FuncData, (∀ (s : Shared) (u : Value), BindsTo s fd ⟨[u], []⟩ [(("script" : Str), u)]) ∧ ∀ base : Heap, K.In base → base.Ns mainGlobals mg → FnOkG P w K mg base (L2.CX P w) k fa fd ["script"] (spTrue K) := by
  obtain ⟨f, fd, Fu, e, b⟩ := D
  rw [hfa] at e
  cases e
  obtain ⟨oc, od, kV, doc, pm, an, cdv, ct, osl, efd, lk, hcd⟩ := Fu.ex
  refine ⟨fd, fun s u => ?_, fun base h1 h2 => ?_⟩
  · subst efd
    exact .of_eq (hb kV doc pm an cdv ct u)
  · obtain ⟨fd', b', G, Fu'⟩ := law_imp (F base h1 h2) hfa hm
    obtain ⟨oc', od', kV', doc', pm', an', cdv', ct', osl', efd', lk', hcd'⟩ := Fu'.ex
    rw [lk] at lk'
    cases lk'
    exact G
theorem withDef {Gl : Prop} {x : Str} {st : Stmt} {ps : List Str} {f : Addr} {oc : Value} {od an : Option Addr} {osl : Array (Option Value)} {kV doc pm cdv ct : Value} (KX : K.In h) (G : h.Ns mainGlobals mg) (a : PySem.W.nsIn K mainGlobals x = some (some (.ref f)))
    (l : K.lookup f = some ⟨oc, od, .func (PySem.W.fnOf x x (defArgs st) (defBody st) (defScope st) .none kV doc pm an cdv ct), osl⟩) (cc : PySem.W.codeIn K cdv x = true) (k : PySem.W.keepIn K (.ref f) = true)
    (b : ∀ (kV doc pm : Value) (an : Option Addr) (cdv ct : Value) (us : List Value), us.length = ps.length → bindArgs (PySem.W.fnOf x x (defArgs st) (defBody st) (defScope st) .none kV doc pm an cdv ct) ⟨us, []⟩ = pure (ps.zip us)) (z : HasDef K mg x st ps → Gl) : Gl := z (hasDef_mk KX G a l cc k b)
theorem withInt {Gl : Prop} {x : Str} {i : Int} {t : Tok} (KX : K.In h) (G : h.Ns mainGlobals mg) (a : PySem.W.nsIn K mainGlobals x = some (some (.int i t))) (z : (∃ t, mg x = some (.int i t)) → Gl) : Gl := z (int_mk KX G a)
end
end TL

set_option Elab.async false
set_option linter.all false
set_option maxRecDepth 100000
/-! TLQ: more of the same: list(range(a, b)), slices that change something. -/
namespace TL
open PySem PySem.Spec L2
section
variable {X : Cx} {K : PySem.W.Frag} {w : World} {c : C} {a b e : Expr} {p p2 pos cpos : Pos} {fa fb : PEv → PR T}
/-- list(range(a, b)) -/
def pLR2 (f g : PEv → PR T) : PEv → PR T := fun ρ => (f ρ).bind fun t => (g ρ).bind fun u => match t, u with
  | .int i, .int j => if 0 ≤ i ∧ i ≤ 16777216 ∧ 0 ≤ j ∧ j ≤ 16777216 then .ok (.lst (rngT i (j - i).toNat)) else .bad
  | _, _ => .bad
theorem ev_lr2 (hc : X.calm = true) (hm : X.mg "list" = none) (hmr : X.mg "range" = none) (ha : PE X a (tP c fa)) (hb : PE X b (tP c fb)) (hg : Gl X "list" := by rfl) (hgr : Gl X "range" := by rfl)
    (na : starEach [.Call (.Name "range" p2) [a, b] [] pos] X.env = (false, eval (.Call (.Name "range" p2) [a, b] [] pos) X.env) :: starEach [] X.env := by rfl)
    (n1 : starEach [a, b] X.env = (false, eval a X.env) :: starEach [b] X.env := by rfl) (n2 : starEach [b] X.env = (false, eval b X.env) :: starEach [] X.env := by rfl) (n3 : (backTo pos (starEach [b] X.env)).any (·.1) = false := by rfl) :
    PE X (.Call (.Name "list" p) [.Call (.Name "range" p2) [a, b] [] pos] [] cpos) (tN c (pLR2 fa fb)) :=
  PEm (pe_listRg hc hg hm (prg_2 hgr hmr ha hb n1 n2 n3) na) fun σ H Q ⟨ρ, O, re, po⟩ => ⟨ρ, O, re, by
    unfold pLR2 at po
    refine PoP.bind isN po fun t x H1 s1 b1 po1 => ⟨ρ, O, re.same s1, PoP.bind isN po1 fun u y H2 s2 b2 po2 => ?_⟩
    cases t with
    | int i =>
      cases u with
      | int j =>
        refine ⟨i, j, of_int b1, of_int b2, ?_⟩
        by_cases hz : 0 ≤ i ∧ i ≤ 16777216 ∧ 0 ≤ j ∧ j ≤ 16777216
        · simp only [hz, and_self, if_true] at po2
          exact ⟨RgOk.of_le hz.1 hz.2.2.2 hz.2.1 hz.2.2.1, fun q n' => po2 q _ ((s1.trans s2).trans (same_upd n')) ((s1.trans s2).free n') (own_lst n' (reps_rng i j))⟩
        · simp only [hz, if_false] at po2; exact po2.elim
      | _ => exact po2.elim
    | _ => exact po2.elim⟩
/-! slices with parts that change something -/
def PoEO2 (c : C) (O : List Addr) (H : Hp) (σ : Sg) (ρ : SE) (r : R (Option Int)) (Q : Option Int → Hp → Prop) : Prop := match r with
  | .ok t ρ' => ∀ H' O', RE c O' H' σ ρ' → Step O H σ ρ O' H' σ ρ' → Q t H'
  | .ex n t => c.WT n t
  | .bad => False
def tEPt (c : C) (f : SE → R (Option Int)) : TO := fun σ H Q => ∃ ρ O, RE c O H σ ρ ∧ PoEO2 c O H σ ρ (f ρ) Q
def eNoPart : SE → R (Option Int) := fun ρ => .ok none ρ
def ePart (f : SE → R T) : SE → R (Option Int) := fun ρ => (f ρ).bind fun t ρ1 => match t with
  | .int i => .ok (some i) ρ1
  | _ => .bad
variable {O : List Addr} {H : Hp} {σ : Sg} {ρ : SE} {f : SE → R T}
theorem isEO2 {Q : Option Int → Hp → Prop} : IsR c (PoEO2 c O H σ ρ · Q) := ⟨fun _ _ h => h, fun h => h⟩
theorem eeo_none : PO X none (tEPt c eNoPart) := ⟨fun pins s σ H Q I ⟨ρ, O, re, po⟩ => po_none.run pins s σ H Q I (po H O re Step.refl)⟩
theorem eeo_some (h : PE X e (tE c false f)) : PO X (some e) (tEPt c (ePart f)) := ⟨fun pins s σ H Q I ⟨ρ, O, re, po⟩ => (po_some h).run pins s σ H Q I ⟨ρ, O, re, PoE.bind isEO2 po fun t ρ1 x H1 O1 re1 s1 v1 _ po1 => by
  cases t with
  | int i => exact ⟨i, of_int (show Rep c.K c.w O1 H1 (.int i) x from v1), po1 H1 O1 re1 s1⟩
  | _ => exact po1.elim⟩⟩
theorem PoEO2.bind {β : Type} {P : R β → Prop} (ip : IsR c P) {r : R (Option Int)} {n : Option Int → SE → R β} {Q : Option Int → Hp → Prop} (h : P (r.bind n))
    (q : ∀ t ρ1 H1 O1, RE c O1 H1 σ ρ1 → Step O H σ ρ O1 H1 σ ρ1 → P (n t ρ1) → Q t H1) : PoEO2 c O H σ ρ r Q := by
  cases r with
  | ok t ρ1 => exact fun H1 O1 re s => q t ρ1 H1 O1 re s h
  | ex n t => exact ip.ex _ _ h
  | bad => exact ip.bad h
def eSl (f : SE → R T) (l h : SE → R (Option Int)) : SE → R T := fun ρ => (f ρ).bind fun t ρ1 => (l ρ1).bind fun lo ρ2 => (h ρ2).bind fun hi ρ3 => R.of (match t with
  | .lst ts => some (.lst (cutT ts lo hi))
  | .scr ts => some (.lst (cutT ts lo hi))
  | _ => none) ρ3
theorem ee_sl {lo hi : Option Expr} {l h : SE → R (Option Int)} (he : PE X e (tE c false f)) (hl : PO X lo (tEPt c l)) (hh : PO X hi (tEPt c h)) (hK : X.K = c.K := by rfl) : PE X (.Subscript e (.Slice lo hi none p2) pos) (tE c true (eSl f l h)) :=
  PEm (pe_slice sl_list he hl hh) fun σ H Q ⟨ρ, O, re, po⟩ => ⟨ρ, O, re, PoE.bind isE po fun t ρ1 x H1 O1 re1 s1 v1 _ po1 => ⟨ρ1, O1, re1, PoEO2.bind isE po1 fun i ρ2 H2 O2 re2 s2 po2 => ⟨ρ2, O2, re2, PoEO2.bind isE po2 fun j ρ3 H3 O3 re3 s3 po3 => by
    have v3 : Rep c.K c.w O3 H3 t x := Val.step re2 s3 (Val.step re1 s2 v1)
    have s123 := (s1.th re s2).th re s3
    have fin : ∀ ts p vs, x = .ref p → SqL X.K H3 p vs → Reps c.K c.w O3 H3 ts vs → PoE c true O H σ ρ (.ok (.lst (cutT ts i j)) ρ3) Q → rSlL X.K x i j H3 Q := fun ts p vs e1 hs r po => by
      refine ⟨p, vs, e1, hs, fun q n => ?_⟩
      have ow := own_lst n (r.cut i j)
      exact po _ _ (q :: O3) (re3.new (same_upd n) n ow.some) (s123.th re (Step.new (same_upd n) n)) ⟨q, rfl, List.mem_cons_self, re3.notOw n, re3.h0none n, ow⟩ fun _ p' e => by cases e; exact s123.back (.inr n)
    cases t with
    | lst ts =>
      obtain ⟨p, vs, e1, _, hp, r⟩ := of_lst v3
      exact fin ts p vs e1 (SqL.of hp) r po3
    | scr ts =>
      obtain ⟨p, vs, e1, hp, r⟩ := of_scr v3
      exact fin ts p vs e1 (by rw [hK]; exact hp.sq) r po3
    | _ => exact po3.elim⟩⟩⟩
end
end TL

set_option Elab.async false
set_option linter.all false
set_option maxRecDepth 100000
/-! TR: repr of lists and tuples. -/
namespace TL
open PySem PySem.Spec L2
mutual
def dataT : T → Option PyData
  | .non => some .none
  | .bl b => some (.bool b)
  | .int i => some (.int i)
  | .str x => some (.str x)
  | .lst ts => (dataTs ts).map .list
  | .scr ts => (dataTs ts).map .list
  | .tup ts => (dataTs ts).map .tuple
  | _ => none
def dataTs : List T → Option (List PyData)
  | [] => some []
  | t :: ts => match dataT t, dataTs ts with
    | some d, some ds => some (d :: ds)
    | _, _ => none
end
section
variable {X : Cx} {pins : List (Addr × Obj)} {σ : Sg} {H : Hp} {s : Shared} {O : List Addr}
mutual
theorem reads_rep (I : Inv X pins σ H s) : ∀ {t : T} {x : V} {v : Value} {d : PyData}, Rep X.K X.w O H t x → RelV x v → dataT t = some d → ∃ as, Reads s.heap v d as
  | .non, x, v, d, r, rv, e => by
    unfold Rep at r; subst r; cases (show v = Value.none from rv); unfold dataT at e; cases e; exact ⟨_, .none⟩
  | .bl b, x, v, d, r, rv, e => by
    unfold Rep at r; subst r; cases (show v = Value.bool b from rv); unfold dataT at e; cases e; exact ⟨_, .bool b⟩
  | .int i, x, v, d, r, rv, e => by
    unfold Rep at r; subst r; obtain ⟨t, rfl⟩ := rv; unfold dataT at e; cases e; exact ⟨_, .int i t⟩
  | .str y, x, v, d, r, rv, e => by
    unfold Rep at r; subst r; obtain ⟨t, rfl⟩ := rv; unfold dataT at e; cases e; exact ⟨_, .str y t⟩
  | .lst ts, x, v, d, r, rv, e => by
    unfold Rep at r
    obtain ⟨a, vs, rfl, _, hp, rs⟩ := r
    cases (show v = Value.ref a from rv)
    unfold dataT at e
    obtain ⟨ds, e1, rfl⟩ := Option.map_eq_some_iff.mp e
    obtain ⟨its, vv, ⟨o, n, g1, g2, _, g3⟩, _⟩ := I.list (SqL.of hp)
    obtain ⟨as, q⟩ := reads_reps I rs vv e1
    exact ⟨_, .list g1 g2 g3 (by simpa using q)⟩
  | .scr ts, x, v, d, r, rv, e => by
    unfold Rep at r
    obtain ⟨a, vs, rfl, hp, rs⟩ := r
    cases (show v = Value.ref a from rv)
    unfold dataT at e
    obtain ⟨ds, e1, rfl⟩ := Option.map_eq_some_iff.mp e
    obtain ⟨its, vv, ⟨o, n, g1, g2, _, g3⟩, _⟩ := I.list hp.sq
    obtain ⟨as, q⟩ := reads_reps I rs vv e1
    exact ⟨_, .list g1 g2 g3 (by simpa using q)⟩
  | .tup ts, x, v, d, r, rv, e => by
    unfold Rep at r
    obtain ⟨a, vs, rfl, hp, rs⟩ := r
    cases (show v = Value.ref a from rv)
    unfold dataT at e
    obtain ⟨ds, e1, rfl⟩ := Option.map_eq_some_iff.mp e
    obtain ⟨its, vv, ⟨o, g1, g2, n, g3⟩, _⟩ := I.tuple hp.sq
    obtain ⟨as, q⟩ := reads_reps I rs vv e1
    exact ⟨_, .tuple g1 g2 g3 (by simpa using q)⟩
  | .dct ks ts, _, _, _, _, _, e => by unfold dataT at e; cases e
  | .set S, _, _, _, _, _, e => by unfold dataT at e; cases e
  | .fn a, _, _, _, _, _, e => by unfold dataT at e; cases e
  | .ty n, _, _, _, _, _, e => by unfold dataT at e; cases e
theorem reads_reps (I : Inv X pins σ H s) : ∀ {ts : List T} {xs : List V} {vs : List Value} {ds : List PyData}, Reps X.K X.w O H ts xs → Vals xs vs → dataTs ts = some ds → ∃ as, ReadsAll s.heap vs ds as
  | [], xs, vs, ds, r, rv, e => by
    unfold Reps at r; subst r; cases rv; unfold dataTs at e; cases e; exact ⟨_, .nil⟩
  | t :: ts, xs, vs, ds, r, rv, e => by
    unfold Reps at r
    obtain ⟨x, xr, rfl, r1, r2⟩ := r
    cases rv with
    | cons rx rr =>
      unfold dataTs at e
      cases e1 : dataT t with
      | none => rw [e1] at e; cases e
      | some d =>
        cases e2 : dataTs ts with
        | none => rw [e1, e2] at e; cases e
        | some ds' =>
          rw [e1, e2] at e
          cases e
          obtain ⟨a1, q1⟩ := reads_rep I r1 rx e1
          obtain ⟨a2, q2⟩ := reads_reps I r2 rr e2
          exact ⟨_, .cons q1 q2⟩
end
end
def isObjT : T → Bool
  | .lst _ => true
  | .scr _ => true
  | .tup _ => true
  | _ => false
def okD (d : PyData) : Bool := d.showable && !d.hasDict && decide (d.depth ≤ 100) && decide (d.shown.length ≤ sizeLine)
def gRepr : List T → Option T
  | [t] => match dataT t with
    | some d => if isObjT t && okD d then some (.str d.shown) else none
    | none => none
  | _ => none
section
variable {X : Cx} {K : PySem.W.Frag} {w : World} {k : Nat}
def rRepr (K : PySem.W.Frag) (w : World) : List V → Hp → VK → Prop := fun xs H Q => ∃ O t a d, xs = [.ref a] ∧ Rep K w O H t (.ref a) ∧ dataT t = some d ∧ okD d = true ∧ Q (.str d.shown) H
theorem cr_repr (hr : RoomG k X.A) : CallR X (.builtin "repr") (rRepr X.K X.w) := by
  intro pins s σ H xs us Q I r h
  obtain ⟨O, t, a, d, rfl, rp, e, ok, q⟩ := h
  obtain ⟨u, rfl, rv⟩ := vals1 r
  cases (show u = Value.ref a from rv)
  obtain ⟨as, rd⟩ := reads_rep I rp rfl e
  unfold okD at ok
  simp only [Bool.and_eq_true, decide_eq_true_eq, Bool.not_eq_true'] at ok
  obtain ⟨⟨⟨h1, h2⟩, h3⟩, h4⟩ := ok
  have un := hr.un
  exact repr_of_reads' rd h1 (fun z => by rw [h2] at z; cases z) hr.gd (by omega) (fun _ _ e => e) (fun h' u tk hk => ⟨.str d.shown, H, I.kept hk, ⟨_, rfl⟩, q⟩) h4
theorem ok_repr : CallOk K w (rRepr K w) gRepr := fun O H ts z xs Q _ r e q => by
  unfold gRepr at e
  match ts, r, e with
  | [t], r, e =>
    obtain ⟨x, xr, rfl, r1, r2⟩ := r
    cases (show xr = [] from r2)
    cases hd : dataT t with
    | none => simp only [hd] at e; cases e
    | some d =>
      simp only [hd] at e
      by_cases hz : (isObjT t && okD d) = true
      · rw [if_pos hz] at e
        cases e
        simp only [Bool.and_eq_true] at hz
        have ⟨a, ha⟩ : ∃ a, x = V.ref a := by
          cases t with
          | lst ts => obtain ⟨a, _, e, _⟩ := r1; exact ⟨a, e⟩
          | scr ts => obtain ⟨a, _, e, _⟩ := r1; exact ⟨a, e⟩
          | tup ts => obtain ⟨a, _, e, _⟩ := r1; exact ⟨a, e⟩
          | _ => exact absurd hz.1 (by simp [isObjT])
        subst ha
        exact ⟨O, t, a, d, rfl, r1, hd, hz.2, q _ _ (Same.refl H) (by unfold Rep; rfl)⟩
      · rw [if_neg hz] at e; cases e
end
/-! is, is not, of bools -/
def gIsB : T → T → Option Bool
  | .bl a, .bl b => some (decide (a = b))
  | _, _ => none
def gNotB : T → T → Option Bool
  | .bl a, .bl b => some (!decide (a = b))
  | _, _ => none
section
variable {K : PySem.W.Frag} {w : World}
theorem ok_isB : BoOk K w rIsB gIsB := fun O H t u z x y Q _ a b e q => by
  unfold gIsB at e
  split at e
  · cases e; exact ⟨_, _, of_bl a, of_bl b, q⟩
  · cases e
theorem ok_notB : BoOk K w rNotB gNotB := fun O H t u z x y Q _ a b e q => by
  unfold gNotB at e
  split at e
  · cases e; exact ⟨_, _, of_bl a, of_bl b, q⟩
  · cases e
end
end TL

set_option Elab.async false
set_option linter.all false
set_option maxRecDepth 100000
/-! TP: plain lemmas on mirrors. -/
namespace TL
open PySem L2
theorem lcGo_ok {tg : T → PEv → Option PEv} {tst : PEv → PR Bool} {elt : PEv → PR T} {ρ : PEv} (p : T → Bool) (f : T → T) : ∀ (ts : List T), (∀ t ∈ ts, ∃ ρ1, tg t ρ = some ρ1 ∧ tst ρ1 = .ok (p t) ∧ (p t = true → elt ρ1 = .ok (f t))) → lcGo tg tst elt ρ ts = .ok ((ts.filter p).map f)
  | [], _ => rfl
  | t :: ts, h => by
    obtain ⟨ρ1, h1, h2, h3⟩ := h t List.mem_cons_self
    have ih := lcGo_ok p f ts fun u hu => h u (List.mem_cons_of_mem _ hu)
    unfold lcGo
    rw [h1]
    dsimp only
    rw [h2, PR.nx_ok]
    cases hp : p t with
    | true =>
      rw [if_pos rfl, h3 hp, PR.nx_ok, ih, List.filter_cons_of_pos hp]
      rfl
    | false =>
      rw [if_neg Bool.false_ne_true, ih, List.filter_cons_of_neg (by simp [hp])]
theorem small_of {ts : List T} (h : ts.length ≤ 1000000) : small ts = true := by
  unfold small; exact decide_eq_true (by omega)
theorem pLc_ok {it : PEv → PR (List T)} {vs : List Nat} {tg : T → PEv → Option PEv} {tst : PEv → PR Bool} {elt : PEv → PR T} {ρ : PEv} {ts : List T} (p : T → Bool) (f : T → T) (h1 : it ρ = .ok ts) (h2 : ts.length ≤ 1000000)
    (h : ∀ t ∈ ts, ∃ ρ1, tg t (wipeP ρ vs) = some ρ1 ∧ tst ρ1 = .ok (p t) ∧ (p t = true → elt ρ1 = .ok (f t))) : pLc it vs tg tst elt ρ = .ok (.lst ((ts.filter p).map f)) := by
  unfold pLc
  rw [h1, PR.bind_ok, if_pos (small_of h2), lcGo_ok p f ts h]
  rfl
/-- without a condition -/
theorem pLc_map {it : PEv → PR (List T)} {vs : List Nat} {tg : T → PEv → Option PEv} {elt : PEv → PR T} {ρ : PEv} {ts : List T} (f : T → T) (h1 : it ρ = .ok ts) (h2 : ts.length ≤ 1000000)
    (h : ∀ t ∈ ts, ∃ ρ1, tg t (wipeP ρ vs) = some ρ1 ∧ elt ρ1 = .ok (f t)) : pLc it vs tg pYes elt ρ = .ok (.lst (ts.map f)) := by
  rw [pLc_ok (fun _ => true) f h1 h2 fun t ht => by
    obtain ⟨ρ1, a, b⟩ := h t ht
    exact ⟨ρ1, a, rfl, fun _ => b⟩]
  rw [List.filter_eq_self.mpr fun _ _ => rfl]
/-- a loop by an invariant -/
theorem forGo_inv {g : T → SE → Option SE} {body : SE → SO} (P : Nat → SE → Prop) : ∀ (ts : List T) (k : Nat) (ρ : SE), P k ρ → (∀ i t ρ, ts[i]? = some t → P (k + i) ρ → ∃ ρ1, g t ρ = some ρ1 ∧ ∃ ρ2, body ρ1 = .nx ρ2 ∧ P (k + i + 1) ρ2) → ∃ ρ', forGo g body ts ρ = .nx ρ' ∧ P (k + ts.length) ρ'
  | [], k, ρ, h, _ => ⟨ρ, rfl, h⟩
  | t :: ts, k, ρ, h, st => by
    obtain ⟨ρ1, h1, ρ2, h2, h3⟩ := st 0 t ρ rfl h
    have h3 : P (k + 1) ρ2 := h3
    obtain ⟨ρ', e, q⟩ := forGo_inv P ts (k + 1) ρ2 h3 fun i u σ hu hp => by
      have e1 : k + 1 + i = k + (i + 1) := by omega
      rw [e1] at hp ⊢
      exact st (i + 1) u σ (by simpa using hu) hp
    refine ⟨ρ', ?_, ?_⟩
    · unfold forGo
      rw [h1]
      dsimp only
      rw [h2]
      exact e
    · rw [List.length_cons]
      have e1 : k + 1 + ts.length = k + (ts.length + 1) := by omega
      rw [e1] at q; exact q
/-- .. that may leave by return -/
theorem whGo_inv {t : SE → R Bool} {body : SE → SO} (P : Nat → SE → Prop) (Q : SE → Prop) : ∀ (m n : Nat) (ρ : SE), m < n → P m ρ → (∀ m ρ, P m ρ → (∃ ρ1, t ρ = .ok false ρ1 ∧ Q ρ1) ∨ ∃ m', m = m' + 1 ∧ ∃ ρ1, t ρ = .ok true ρ1 ∧ ∃ ρ2, body ρ1 = .nx ρ2 ∧ P m' ρ2) → ∃ ρ', whGo t body n ρ = .nx ρ' ∧ Q ρ'
  | m, 0, ρ, hm, _, _ => absurd hm (Nat.not_lt_zero m)
  | m, n + 1, ρ, hm, h, st => by
    unfold whGo
    rcases st m ρ h with ⟨ρ1, h1, h2⟩ | ⟨m', e, ρ1, h1, ρ2, h2, h3⟩
    · rw [h1]; exact ⟨ρ1, rfl, h2⟩
    · rw [h1]
      obtain ⟨ρ', e2, q⟩ := whGo_inv P Q m' n ρ2 (by omega) h3 st
      refine ⟨ρ', ?_, q⟩
      show (match body ρ1 with | .nx ρ2 => whGo t body n ρ2 | .ct ρ2 => whGo t body n ρ2 | .bk ρ2 => .nx ρ2 | r => r) = _
      rw [h2]; exact e2
/-- comprehensions that change something, by an invariant -/
theorem leGo_inv {vs : List Nat} {tg : T → SE → Option SE} {tst : SE → R Bool} {elt : SE → R T} (P : Nat → SE → Prop) (E : T → T → Prop) : ∀ (ts : List T) (k : Nat) (ρ : SE), P k (wipeE ρ vs) → (∀ i t ρ, ts[i]? = some t → P (k + i) ρ → ∃ ρ1, tg t ρ = some ρ1 ∧ ∃ ρ2, tst ρ1 = .ok true ρ2 ∧ ∃ y ρ3, elt ρ2 = .ok y ρ3 ∧ E t y ∧ P (k + i + 1) (wipeE ρ3 vs)) →
    ∃ rs ρ', leGo vs tg tst elt ts ρ = .ok rs ρ' ∧ P (k + ts.length) ρ' ∧ rs.length = ts.length ∧ ∀ (i : Nat) (t y : T), ts[i]? = some t → rs[i]? = some y → E t y
  | [], k, ρ, h, _ => ⟨[], _, rfl, h, rfl, fun i t y h => by cases h⟩
  | t :: ts, k, ρ, h, st => by
    obtain ⟨ρ1, h1, ρ2, h2, y, ρ3, h3, hE, h4⟩ := st 0 t _ rfl h
    have h4 : P (k + 1) (wipeE ρ3 vs) := h4
    obtain ⟨rs, ρ', e, q, hl, hi⟩ := leGo_inv P E ts (k + 1) ρ3 h4 fun i u σ hu hp => by
      have e1 : k + 1 + i = k + (i + 1) := by omega
      rw [e1] at hp ⊢
      exact st (i + 1) u σ (by simpa using hu) hp
    refine ⟨y :: rs, ρ', ?_, ?_, by simp [hl], fun i u z h1 h2 => ?_⟩
    · unfold leGo
      rw [h1]
      dsimp only
      rw [h2]
      dsimp only
      rw [h3]
      dsimp only
      rw [e]; rfl
    · rw [List.length_cons]
      have e1 : k + 1 + ts.length = k + (ts.length + 1) := by omega
      rw [e1] at q; exact q
    · cases i with
      | zero => cases h1; cases h2; exact hE
      | succ i => exact hi i u z (by simpa using h1) (by simpa using h2)

/-! ### dicts by a list of ints -/
theorem dget_map (f : Int → T) (x : Int) : ∀ D : List Int, dgetT (D.map Sum.inl) (D.map f) (.inl x) = if x ∈ D then some (f x) else none
  | [] => rfl
  | y :: D => by
    rw [List.map_cons, List.map_cons]
    unfold dgetT
    by_cases h : y = x
    · subst h; simp
    · have h1 : ¬ ((Sum.inl y : Key) = Sum.inl x) := fun z => h (Sum.inl.inj z)
      rw [if_neg h1, dget_map f x D]
      have h2 : (x ∈ y :: D) ↔ x ∈ D := by simp [Ne.symm h]
      by_cases h3 : x ∈ D
      · rw [if_pos h3, if_pos (h2.mpr h3)]
      · rw [if_neg h3, if_neg fun z => h3 (h2.mp z)]
theorem zip_map (f : Int → T) (x : Int) (v : T) : ∀ D : List Int, List.zipWith (fun (k' : Key) (t' : T) => if k' = .inl x then v else t') (D.map Sum.inl) (D.map f) = D.map fun y => if y = x then v else f y
  | [] => rfl
  | y :: D => by
    rw [List.map_cons, List.map_cons, List.zipWith_cons_cons, zip_map f x v D, List.map_cons]
    by_cases h : y = x
    · subst h; simp
    · have h1 : ¬ ((Sum.inl y : Key) = Sum.inl x) := fun z => h (Sum.inl.inj z)
      rw [if_neg h1, if_neg h]
def addD (D : List Int) (x : Int) : List Int := if x ∈ D then D else D ++ [x]
theorem dput_map (f : Int → T) (x : Int) (v : T) (D : List Int) : dputT (D.map Sum.inl) (D.map f) (.inl x) v = .dct ((addD D x).map Sum.inl) ((addD D x).map fun y => if y = x then v else f y) := by
  unfold dputT addD
  have e : ((D.map Sum.inl).any fun k' : Key => decide (k' = .inl x)) = decide (x ∈ D) := by
    rw [List.any_map]
    induction D with
    | nil => rfl
    | cons y D ih =>
      rw [List.any_cons, ih]
      by_cases h : y = x
      · subst h; simp
      · have h1 : ¬ ((Sum.inl y : Key) = Sum.inl x) := fun z => h (Sum.inl.inj z)
        have h2 : (x ∈ y :: D) ↔ x ∈ D := by simp [Ne.symm h]
        simp [h1, h2]
  rw [e]
  by_cases h : x ∈ D
  · rw [if_pos (decide_eq_true h), if_pos h, zip_map]
  · rw [if_neg (by simp [h]), if_neg h, List.map_append, List.map_append]
    have : D.map (fun y => if y = x then v else f y) = D.map f := List.map_congr_left fun y hy => if_neg (fun (z : y = x) => h (z ▸ hy))
    rw [this]; simp
theorem addD_nodup {D : List Int} (h : D.Nodup) (x : Int) : (addD D x).Nodup := by
  unfold addD
  split
  · exact h
  · rename_i hx
    rw [List.nodup_append]
    exact ⟨h, by simp, fun a ha b hb e => by simp at hb; subst hb; subst e; exact hx ha⟩
theorem mem_addD {D : List Int} {x y : Int} : y ∈ addD D x ↔ y ∈ D ∨ y = x := by
  unfold addD
  split
  · rename_i hx
    constructor
    · exact .inl
    · rintro (h | h)
      · exact h
      · subst h; exact hx
  · simp
/-! ### walks -/
theorem enum_range (l : List Int) : enumT (l.map T.int) = (List.range l.length).map fun i => T.tup [.int (i : Nat), .int (l.getD i 0)] := by
  apply List.ext_getElem?
  intro i
  unfold enumT
  rw [List.getElem?_mapIdx, List.getElem?_map, List.getElem?_map]
  by_cases h : i < l.length
  · rw [List.getElem?_range h, List.getElem?_eq_getElem h]
    simp [List.getD_eq_getElem?_getD, List.getElem?_eq_getElem h]
  · rw [List.getElem?_eq_none (by omega), List.getElem?_eq_none (by simp; omega)]; rfl
theorem enum_map {α : Type} (f : α → T) (n : Nat) (g : Nat → T) : enumT ((List.range n).map g) = (List.range n).map fun i => T.tup [.int (i : Nat), g i] := by
  apply List.ext_getElem?
  intro i
  unfold enumT
  rw [List.getElem?_mapIdx, List.getElem?_map, List.getElem?_map]
  by_cases h : i < n
  · rw [List.getElem?_range h]; rfl
  · rw [List.getElem?_eq_none (by simp; omega)]; rfl
theorem rng0 (n : Nat) : rngT 0 n = (List.range n).map fun (i : Nat) => T.int (i : Int) := by
  unfold rngT
  apply List.map_congr_left
  intro i _
  rw [Int.zero_add]
theorem fv_int (x : Int) : (T.int x).fv = .int x := rfl
theorem any_eqV (x : Int) : ∀ l : List Int, (l.any fun y => L2.eqV (L2.V.int y) (L2.V.int x)) = decide (x ∈ l)
  | [] => rfl
  | z :: l => by
    rw [List.any_cons, any_eqV x l]
    have : L2.eqV (L2.V.int z) (L2.V.int x) = (z == x) := rfl
    rw [this]
    by_cases h : z = x
    · subst h; simp
    · have hb : (z == x) = false := by simpa using h
      rw [hb, Bool.false_or]
      have h2 : (x ∈ z :: l) ↔ x ∈ l := by simp [Ne.symm h]
      simp only [h2]
theorem all_flat_int (l : List Int) : (l.map T.int).all T.isFlat = true := by
  rw [List.all_map]
  exact List.all_eq_true.mpr fun _ _ => rfl
theorem gIn_int (x : Int) (l : List Int) : gIn (.int x) (.lst (l.map T.int)) = some (decide (x ∈ l)) := by
  show (if T.isFlat (.int x) && (l.map T.int).all T.isFlat then some (L2.inV (T.int x).fv ((l.map T.int).map T.fv)) else none) = _
  rw [all_flat_int]
  show some _ = _
  congr 1
  have : (l.map T.int).map T.fv = l.map L2.V.int := by rw [List.map_map]; rfl
  rw [this]
  unfold L2.inV
  rw [List.any_map]
  exact any_eqV x l
theorem gNin_int (x : Int) (l : List Int) : gNinA (.int x) (.lst (l.map T.int)) = some (!decide (x ∈ l)) := by
  unfold gNinA gNin
  rw [gIn_int]; rfl
theorem cut_map (l : List Int) (lo hi : Option Int) : cutT (l.map T.int) lo hi = ((l.drop (HT.sIx l.length 0 lo)).take (HT.sIx l.length l.length hi - HT.sIx l.length 0 lo)).map T.int := by
  unfold cutT
  rw [List.length_map, ← List.map_drop, ← List.map_take]
theorem ints_map (l : List Int) : T.ints (l.map T.int) = some l := by
  induction l with
  | nil => rfl
  | cons x l ih => rw [List.map_cons]; unfold T.ints; rw [ih]; rfl
theorem gSum_int (l : List Int) : gSum [.lst (l.map T.int)] = some (.int l.sum) := by
  show (T.ints (l.map T.int)).map _ = _
  rw [ints_map]; rfl
theorem gSet_int {l : List Int} (h : l.length ≤ 1000) : gSet [.lst (l.map T.int)] = some (.set (setL l)) := by
  show (T.ints (l.map T.int)).bind _ = _
  rw [ints_map]
  show (if l.length ≤ 1000 then _ else _) = _
  rw [if_pos h]
theorem gSorted_set {S : List Int} (h : S.length < 64) : gSortedA [.set S] = some (.lst (S.map T.int)) := by
  show (if S.length < 64 then some (T.lst (S.map T.int)) else none) = _
  rw [if_pos h]
theorem setL_le (l : List Int) : (setL l).length ≤ l.length := by
  induction l with
  | nil => exact Nat.le_refl _
  | cons x l ih =>
    have : ∀ (S : List Int), (insU x S).length ≤ S.length + 1 := by
      intro S
      induction S with
      | nil => exact Nat.le_refl _
      | cons y S ih2 =>
        unfold insU
        split
        · simp
        · split
          · simp
          · rw [List.length_cons, List.length_cons]; omega
    exact Nat.le_trans (this _) (by rw [List.length_cons]; omega)
theorem setL_congr {a b : List Int} (h : ∀ k, k ∈ a ↔ k ∈ b) : setL a = setL b := lt_uniq (setL_sorted a) (setL_sorted b) fun k => by rw [mem_setL, mem_setL]; exact h k
theorem lenA_lst (l : List T) : gLenA [.lst l] = some (.int l.length) := rfl

/-! ### statements, step by step -/
theorem seq_nx {g1 g2 : SE → SO} {ρ ρ1 : SE} {r : SO} (h1 : g1 ρ = .nx ρ1) (h2 : g2 ρ1 = r) : sSeq g1 g2 ρ = r := by unfold sSeq; rw [h1]; exact h2
theorem for_nx {it : SE → R (List T)} {g : T → SE → Option SE} {body : SE → SO} {ρ ρ1 : SE} {ts : List T} {r : SO} (h1 : it ρ = .ok ts ρ1) (h2 : forGo g body ts ρ1 = r) : sForE it g body ρ = r := by unfold sForE; rw [h1]; exact h2
theorem app_nx {j : Nat} {f : SE → R T} {ρ ρ1 : SE} {ts ts1 : List T} {t : T} (h1 : ownAt ρ j = some (.lst ts)) (h2 : f ρ = .ok t ρ1) (h3 : ownAt ρ1 j = some (.lst ts1)) (h4 : ts1.length < 16777216) : sApp j f ρ = .nx (likeAt ρ1 j (.lst (ts1 ++ [t]))) := by
  unfold sApp
  rw [h1]
  dsimp only
  rw [h2, R.thn_ok, h3]
  dsimp only
  rw [if_pos h4]
theorem set_nx {j : Nat} {f fi : SE → R T} {ρ ρ1 ρ2 : SE} {u u1 u' t i : T} (h1 : ownAt ρ j = some u) (h2 : f ρ = .ok t ρ1) (h3 : fi ρ1 = .ok i ρ2) (h4 : ownAt ρ2 j = some u1) (h5 : storeT u1 i t = some u') : sSet j f fi ρ = .nx (likeAt ρ2 j u') := by
  unfold sSet
  rw [h1]
  dsimp only
  rw [h2, R.thn_ok, h3, R.thn_ok, h4]
  dsimp only
  rw [h5]
theorem if_t {t : SE → R Bool} {g1 g2 : SE → SO} {ρ ρ1 : SE} {r : SO} (h1 : t ρ = .ok true ρ1) (h2 : g1 ρ1 = r) : sIf t g1 g2 ρ = r := by unfold sIf; rw [h1]; exact h2
theorem if_f {t : SE → R Bool} {g1 g2 : SE → SO} {ρ ρ1 : SE} {r : SO} (h1 : t ρ = .ok false ρ1) (h2 : g2 ρ1 = r) : sIf t g1 g2 ρ = r := by unfold sIf; rw [h1]; exact h2
theorem liftV_ok {f : PEv → PR T} {ρ : SE} {t : T} (h : f (view ρ) = .ok t) (hf : t.isFlat = true) : liftV f ρ = .ok t ρ := by unfold liftV; rw [h]; dsimp only; rw [if_pos hf]
theorem liftS_ok {α : Type} {f : PEv → PR α} {ρ : SE} {t : α} (h : f (strict ρ) = .ok t) : liftS f ρ = .ok t ρ := by unfold liftS; rw [h]; rfl
theorem asg_nx {i : Nat} {k : Bool} {f : SE → R T} {ρ ρ1 : SE} {t : T} (h : f ρ = .ok t ρ1) (hi : i < ρ1.length) : sAsg i k f ρ = .nx (ρ1.set i (sl k t)) := by unfold sAsg putS; rw [h, R.thn_ok, if_pos hi]
theorem drop_nx {f : SE → R T} {ρ ρ1 : SE} {t : T} (h : f ρ = .ok t ρ1) : sDrop f ρ = .nx ρ1 := by unfold sDrop; rw [h]; rfl
theorem ret_rt {k : Bool} {f : SE → R T} {ρ ρ1 : SE} {t : T} (h : f ρ = .ok t ρ1) : sRet k f ρ = .rt k t ρ1 := by unfold sRet; rw [h]; rfl
theorem runP_rt {k k' : Bool} {N n : Nat} {g : SE → SO} {ts : List T} {t : T} {ρ : SE} (hl : ts.length = n) (h : g (ini N ts) = .rt k' t ρ) (hk : (k && !k') = false) : runP k N n g ts = .ok t := by
  unfold runP outP
  rw [if_pos hl, h]
  dsimp only
  rw [hk]; rfl
theorem runP_nx {N n : Nat} {g : SE → SO} {ts : List T} {ρ : SE} (hl : ts.length = n) (h : g (ini N ts) = .nx ρ) : runP false N n g ts = .ok .non := by
  unfold runP outP
  rw [if_pos hl, h]; rfl
theorem call_ok {m : List T → PR T} {fs : PEv → PR (List T)} {ρ : PEv} {ts : List T} {t : T} (h1 : fs ρ = .ok ts) (h2 : m ts = .ok t) : pCall m fs ρ = .ok t := by unfold pCall; rw [h1]; exact h2
theorem op_ok {g : T → T → Option T} {f1 f2 : PEv → PR T} {ρ : PEv} {a b c : T} (h1 : f1 ρ = .ok a) (h2 : f2 ρ = .ok b) (h3 : g a b = some c) : pOp g f1 f2 ρ = .ok c := by unfold pOp; rw [h1, PR.bind_ok, h2, PR.bind_ok, h3]; rfl
theorem b_ok {g : T → T → Option Bool} {f1 f2 : PEv → PR T} {ρ : PEv} {a b : T} {c : Bool} (h1 : f1 ρ = .ok a) (h2 : f2 ρ = .ok b) (h3 : g a b = some c) : pB g f1 f2 ρ = .ok c := by unfold pB; rw [h1, PR.bind_ok, h2, PR.bind_ok, h3]; rfl
theorem f_ok {g : List T → Option T} {fs : PEv → PR (List T)} {ρ : PEv} {ts : List T} {c : T} (h1 : fs ρ = .ok ts) (h3 : g ts = some c) : pF g fs ρ = .ok c := by unfold pF; rw [h1, PR.bind_ok, h3]; rfl
theorem cons_ok {f : PEv → PR T} {fs : PEv → PR (List T)} {ρ : PEv} {t : T} {ts : List T} (h1 : f ρ = .ok t) (h2 : fs ρ = .ok ts) : pCons f fs ρ = .ok (t :: ts) := by unfold pCons; rw [h1, PR.bind_ok, h2]; rfl
theorem nil_ok {ρ : PEv} : pNil ρ = .ok [] := rfl
theorem one_ok {f : PEv → PR T} {ρ : PEv} {t : T} (h1 : f ρ = .ok t) : pCons f pNil ρ = .ok [t] := cons_ok h1 rfl

/-! ### comprehensions over a list of anything -/
theorem lcGo_on {α : Type} {tg : T → PEv → Option PEv} {tst : PEv → PR Bool} {elt : PEv → PR T} {ρ : PEv} (e : α → T) (p : α → Bool) (f : α → T) : ∀ (l : List α), (∀ a ∈ l, ∃ ρ1, tg (e a) ρ = some ρ1 ∧ tst ρ1 = .ok (p a) ∧ (p a = true → elt ρ1 = .ok (f a))) → lcGo tg tst elt ρ (l.map e) = .ok ((l.filter p).map f)
  | [], _ => rfl
  | a :: l, h => by
    obtain ⟨ρ1, h1, h2, h3⟩ := h a List.mem_cons_self
    have ih := lcGo_on e p f l fun u hu => h u (List.mem_cons_of_mem _ hu)
    rw [List.map_cons]
    unfold lcGo
    rw [h1]
    dsimp only
    rw [h2, PR.nx_ok]
    cases hp : p a with
    | true => rw [if_pos rfl, h3 hp, PR.nx_ok, ih, List.filter_cons_of_pos hp]; rfl
    | false => rw [if_neg Bool.false_ne_true, ih, List.filter_cons_of_neg (by simp [hp])]
theorem pLc_on {α : Type} {it : PEv → PR (List T)} {vs : List Nat} {tg : T → PEv → Option PEv} {tst : PEv → PR Bool} {elt : PEv → PR T} {ρ : PEv} (l : List α) (e : α → T) (p : α → Bool) (f : α → T) (h1 : it ρ = .ok (l.map e)) (h2 : l.length ≤ 1000000)
    (h : ∀ a ∈ l, ∃ ρ1, tg (e a) (wipeP ρ vs) = some ρ1 ∧ tst ρ1 = .ok (p a) ∧ (p a = true → elt ρ1 = .ok (f a))) : pLc it vs tg tst elt ρ = .ok (.lst ((l.filter p).map f)) := by
  unfold pLc
  rw [h1, PR.bind_ok, if_pos (small_of (by rw [List.length_map]; exact h2)), lcGo_on e p f l h]
  rfl
theorem pLc_all {α : Type} {it : PEv → PR (List T)} {vs : List Nat} {tg : T → PEv → Option PEv} {elt : PEv → PR T} {ρ : PEv} (l : List α) (e : α → T) (f : α → T) (h1 : it ρ = .ok (l.map e)) (h2 : l.length ≤ 1000000)
    (h : ∀ a ∈ l, ∃ ρ1, tg (e a) (wipeP ρ vs) = some ρ1 ∧ elt ρ1 = .ok (f a)) : pLc it vs tg pYes elt ρ = .ok (.lst (l.map f)) := by
  rw [pLc_on l e (fun _ => true) f h1 h2 fun a ha => by
    obtain ⟨ρ1, x, y⟩ := h a ha
    exact ⟨ρ1, x, rfl, fun _ => y⟩]
  rw [List.filter_eq_self.mpr fun _ _ => rfl]
/-! ### slices -/
theorem mem_cut {l : List Int} {s e : Nat} {x : Int} : x ∈ (l.drop s).take (e - s) ↔ ∃ k, s ≤ k ∧ k < e ∧ k < l.length ∧ l.getD k 0 = x := by
  rw [List.mem_iff_getElem?]
  constructor
  · rintro ⟨i, h⟩
    rw [List.getElem?_take] at h
    split at h
    · rw [List.getElem?_drop] at h
      have hl : s + i < l.length := (List.getElem?_eq_some_iff.mp h).1
      refine ⟨s + i, by omega, by omega, hl, ?_⟩
      rw [List.getD_eq_getElem?_getD, h]; rfl
    · cases h
  · rintro ⟨k, h1, h2, h3, h4⟩
    refine ⟨k - s, ?_⟩
    rw [List.getElem?_take, if_pos (by omega), List.getElem?_drop]
    have : s + (k - s) = k := by omega
    rw [this, List.getElem?_eq_getElem h3]
    rw [List.getD_eq_getElem?_getD, List.getElem?_eq_getElem h3] at h4
    exact congrArg some h4
theorem sIx_pos {n d : Nat} {v : Int} (h : 0 ≤ v) (h2 : v ≤ n) : HT.sIx n d (some v) = v.toNat := by
  show (if v < 0 then (v + (n : Int)).toNat else min v.toNat n) = _
  rw [if_neg (by omega)]
  exact Nat.min_eq_left (by omega)
/-- l[s:e] -/
theorem cut_int {l : List Int} {s e : Int} (h0 : 0 ≤ s) (h1 : s ≤ l.length) (h2 : 0 ≤ e) (h3 : e ≤ l.length) : cutT (l.map T.int) (some s) (some e) = ((l.drop s.toNat).take (e.toNat - s.toNat)).map T.int := by
  rw [cut_map, sIx_pos h0 h1, sIx_pos h2 h3]
/-- l[i] -/
theorem gIx_int {l : List Int} {i : Nat} (h : i < l.length) : gDix (.lst (l.map T.int)) (.int (i : Nat)) = some (.int (l.getD i 0)) := by
  show atI (l.map T.int) (i : Nat) = _
  refine atI_nat ?_
  rw [List.getElem?_map, List.getElem?_eq_getElem h, List.getD_eq_getElem?_getD, List.getElem?_eq_getElem h]; rfl
theorem rng1_ok {fs : PEv → PR (List T)} {ρ : PEv} {n : Nat} (h : fs ρ = .ok [.int (n : Nat)]) (hn : n ≤ 1000000) : pRng1 fs ρ = .ok ((List.range n).map fun (i : Nat) => T.int (i : Int)) := by
  unfold pRng1
  rw [h, PR.bind_ok]
  dsimp only
  rw [if_pos (by omega), Int.toNat_natCast, rng0]
theorem rng2_ok {fs : PEv → PR (List T)} {ρ : PEv} {n : Nat} (h : fs ρ = .ok [.int 1, .int ((n : Int) + 1)]) (hn : n ≤ 1000000) : pRng2 fs ρ = .ok ((List.range n).map fun (i : Nat) => T.int ((i : Int) + 1)) := by
  unfold pRng2
  rw [h, PR.bind_ok]
  dsimp only
  rw [if_pos (by omega)]
  have : ((n : Int) + 1 - 1).toNat = n := by omega
  rw [this]
  unfold rngT
  congr 1
  apply List.map_congr_left
  intro i _
  rw [Int.add_comm]
theorem eF_ok {g : List T → Option T} {fs : SE → R (List T)} {ρ ρ1 : SE} {ts : List T} {c : T} (h1 : fs ρ = .ok ts ρ1) (h2 : g ts = some c) : eF g fs ρ = .ok c ρ1 := by unfold eF; rw [h1, R.bind_ok, h2]; rfl
theorem eCons_ok {f : SE → R T} {fs : SE → R (List T)} {ρ ρ1 ρ2 : SE} {t : T} {ts : List T} (h1 : f ρ = .ok t ρ1) (h2 : fs ρ1 = .ok ts ρ2) : eCons f fs ρ = .ok (t :: ts) ρ2 := by unfold eCons; rw [h1, R.bind_ok, h2]; rfl
theorem eOne_ok {f : SE → R T} {ρ ρ1 : SE} {t : T} (h1 : f ρ = .ok t ρ1) : eCons f eNil ρ = .ok [t] ρ1 := eCons_ok h1 rfl
theorem eOp_ok {g : T → T → Option T} {f1 f2 : SE → R T} {ρ ρ1 ρ2 : SE} {a b c : T} (h1 : f1 ρ = .ok a ρ1) (h2 : f2 ρ1 = .ok b ρ2) (h3 : g a b = some c) : eOp g f1 f2 ρ = .ok c ρ2 := by unfold eOp; rw [h1, R.bind_ok, h2, R.bind_ok, h3]; rfl
theorem eB_ok {g : T → T → Option Bool} {f1 f2 : SE → R T} {ρ ρ1 ρ2 : SE} {a b : T} {c : Bool} (h1 : f1 ρ = .ok a ρ1) (h2 : f2 ρ1 = .ok b ρ2) (h3 : g a b = some c) : eB g f1 f2 ρ = .ok c ρ2 := by unfold eB; rw [h1, R.bind_ok, h2, R.bind_ok, h3]; rfl
theorem eIo_ok {l : Nat} {m : T → List T → PR (T × T)} {fs : SE → R (List T)} {ρ ρ1 : SE} {t00 t0 r u : T} {ts : List T} (h0 : ownAt ρ l = some t00) (h1 : fs ρ = .ok ts ρ1) (h2 : ownAt ρ1 l = some t0) (h3 : m t0 ts = .ok (r, u)) : eIo l m fs ρ = .ok r (likeAt ρ1 l u) := by
  unfold eIo
  rw [h0]
  dsimp only
  rw [h1, R.bind_ok, h2]
  dsimp only
  rw [h3]
theorem eCall_ok {m : List T → PR T} {fs : SE → R (List T)} {ρ ρ1 : SE} {ts : List T} {t : T} (h1 : fs ρ = .ok ts ρ1) (h2 : m ts = .ok t) : eCall m fs ρ = .ok t ρ1 := by unfold eCall; rw [h1, R.bind_ok, h2]; rfl
theorem gMin2_int (a b : Int) : gMin2 [.int a, .int b] = some (.int (min a b)) := by
  show some (T.int (if b < a then b else a)) = _
  congr 2
  omega
theorem gMax1_int {l : List Int} (h : l ≠ []) : gMax1 [.lst (l.map T.int)] = some (.int (maxL l)) := by
  show (T.ints (l.map T.int)).bind _ = _
  rw [ints_map]
  show (if l = [] then none else some (T.int (maxL l))) = _
  rw [if_neg h]
theorem maxL_le {l : List Int} {b : Int} (h : l ≠ []) : maxL l ≤ b ↔ ∀ x ∈ l, x ≤ b := by
  obtain ⟨h1, h2⟩ := maxL_spec h
  exact ⟨fun z x hx => Int.le_trans (h2 x hx) z, fun z => z _ h1⟩
theorem nodup_sub {a b : List Int} (ha : a.Nodup) (h : ∀ x ∈ a, x ∈ b) : a.length ≤ b.length := by
  induction a generalizing b with
  | nil => exact Nat.zero_le _
  | cons x a ih =>
    rw [List.nodup_cons] at ha
    have hx := h x List.mem_cons_self
    have hp := (List.perm_cons_erase hx).length_eq
    have := ih (b := b.erase x) ha.2 fun y hy => by
      have ne : y ≠ x := fun z => ha.1 (z ▸ hy)
      exact (List.mem_erase_of_ne ne).mpr (h y (List.mem_cons_of_mem _ hy))
    rw [List.length_cons] at hp ⊢
    omega
theorem filter_prefix (p : Nat → Bool) (k : Nat) : ∀ n, k ≤ n → (∀ i, i < k → p i = true) → (∀ i, k ≤ i → i < n → p i = false) → (List.range n).filter p = List.range k
  | 0, h, _, _ => by have : k = 0 := by omega
                     subst this; rfl
  | n + 1, h, h1, h2 => by
    rw [List.range_succ, List.filter_append]
    by_cases e : k = n + 1
    · subst e
      rw [List.filter_eq_self.mpr fun i hi => h1 i (by have := List.mem_range.mp hi; omega)]
      rw [List.filter_cons_of_pos (h1 n (by omega))]
      exact List.range_succ.symm
    · rw [filter_prefix p k n (by omega) h1 fun i a b => h2 i a (by omega)]
      rw [List.filter_cons_of_neg (by rw [h2 n (by omega) (by omega)]; exact Bool.false_ne_true)]
      simp
/-! ### equality -/
theorem ds_ints : ∀ l : List Int, T.ds (l.map T.int) = some (l.map PyData.int)
  | [] => by unfold T.ds; rfl
  | x :: l => by
    rw [List.map_cons]
    unfold T.ds
    rw [ds_ints l]; unfold T.d; rfl
theorem shaped_ints (l : List Int) : SeqAt.shaped (.list (l.map PyData.int)) = true := by
  unfold SeqAt.shaped
  have h1 : ∀ l : List Int, PyData.canLayAll0 (l.map PyData.int) = true := by
    intro l
    induction l with
    | nil => unfold PyData.canLayAll0; rfl
    | cons x l ih => rw [List.map_cons]; unfold PyData.canLayAll0; rw [ih]; unfold PyData.canLay0; rfl
  have h2 : ∀ l : List Int, PyData.depthAll (l.map PyData.int) = 0 := by
    intro l
    induction l with
    | nil => unfold PyData.depthAll; rfl
    | cons x l ih => rw [List.map_cons]; unfold PyData.depthAll; rw [ih]; unfold PyData.depth; rfl
  have e1 : PyData.canLay0 (.list (l.map PyData.int)) = true := by unfold PyData.canLay0; exact h1 l
  have e2 : PyData.depth (.list (l.map PyData.int)) = 1 := by unfold PyData.depth; rw [h2]
  rw [e1, e2]; rfl
theorem eqv_ints : ∀ a b : List Int, PyData.eqvAll (a.map PyData.int) (b.map PyData.int) = decide (a = b)
  | [], [] => by unfold PyData.eqvAll; rfl
  | [], y :: b => by rw [List.map_cons]; show PyData.eqvAll [] _ = _; unfold PyData.eqvAll; simp
  | x :: a, [] => by rw [List.map_cons]; show PyData.eqvAll _ [] = _; unfold PyData.eqvAll; simp
  | x :: a, y :: b => by
    rw [List.map_cons, List.map_cons]
    unfold PyData.eqvAll
    rw [eqv_ints a b]
    have : PyData.eqv (.int x) (.int y) = (x == y) := by unfold PyData.eqv; rfl
    rw [this]
    by_cases h : x = y
    · subst h; simp
    · have : (x == y) = false := by simpa using h
      rw [this]; simp [h]
theorem gEq_ints (a b : List Int) : gEq (.lst (a.map T.int)) (.lst (b.map T.int)) = some (decide (a = b)) := by
  have ea : ∀ l : List Int, T.d (.lst (l.map T.int)) = some (.list (l.map PyData.int)) := fun l => by unfold T.d; rw [ds_ints]; rfl
  unfold gEq
  rw [ea, ea]
  show (if SeqAt.shaped (.list (a.map PyData.int)) && SeqAt.shaped (.list (b.map PyData.int)) then some (PyData.eqv (.list (a.map PyData.int)) (.list (b.map PyData.int))) else none) = _
  rw [shaped_ints, shaped_ints]
  have : PyData.eqv (.list (a.map PyData.int)) (.list (b.map PyData.int)) = PyData.eqvAll (a.map PyData.int) (b.map PyData.int) := by
    conv => lhs; unfold PyData.eqv
  rw [this, eqv_ints]; rfl
theorem gNe_ints (a b : List Int) : gNe (.lst (a.map T.int)) (.lst (b.map T.int)) = some (!decide (a = b)) := by
  unfold gNe
  rw [gEq_ints]; rfl
theorem gEq_int (a b : Int) : gEq (.int a) (.int b) = some (decide (a = b)) := by
  have : PyData.eqv (.int a) (.int b) = (a == b) := by unfold PyData.eqv; rfl
  show some (PyData.eqv (.int a) (.int b)) = _
  rw [this]; rfl
/-! ### numbers -/
def Nn (k : Nat) (a : Int) : Prop := 0 ≤ a ∧ a < (2 : Int) ^ k
theorem Nn.mul {j k : Nat} {a b : Int} (ha : Nn j a) (hb : Nn k b) : Nn (j + k) (a * b) := by
  refine ⟨Int.mul_nonneg ha.1 hb.1, ?_⟩
  rw [Int.pow_add]
  by_cases h0 : b = 0
  · subst h0
    rw [Int.mul_zero]
    exact Int.mul_pos (Int.pow_pos (by decide)) (Int.pow_pos (by decide))
  · have hb' : 0 < b := by have := hb.1; omega
    exact Int.lt_of_lt_of_le (Int.mul_lt_mul_of_pos_right ha.2 hb') (Int.mul_le_mul_of_nonneg_left (Int.le_of_lt hb.2) (Int.le_of_lt (Int.pow_pos (by decide))))
theorem Nn.mono {j k : Nat} {a : Int} (ha : Nn j a) (h : j ≤ k) : Nn k a := ⟨ha.1, Int.lt_of_lt_of_le ha.2 (by have := Nat.pow_le_pow_right (n := 2) (by decide) h; exact_mod_cast this)⟩
theorem Nn.add {k : Nat} {a b : Int} (ha : Nn k a) (hb : Nn k b) : Nn (k + 1) (a + b) := by
  have := ha.1; have := hb.1; have := ha.2; have := hb.2
  refine ⟨by omega, ?_⟩
  rw [Int.pow_succ]
  omega
theorem Nn.mod {a m : Int} {k : Nat} (hm : 0 < m) (h : m ≤ (2 : Int) ^ k) : Nn k (a % m) := ⟨Int.emod_nonneg _ (by omega), Int.lt_of_lt_of_le (Int.emod_lt_of_pos _ hm) h⟩
theorem Nn.bits {k : Nat} {a : Int} (h : Nn k a) : Builtin.Int.intBits a ≤ k := by
  refine PyProof.Rows.intBits_le ?_
  obtain ⟨n, rfl⟩ := Int.eq_ofNat_of_zero_le h.1
  have h2 := h.2
  have : ((n : Nat) : Int) < ((2 ^ k : Nat) : Int) := by rw [Int.natCast_pow]; exact h2
  rw [Int.natAbs_natCast]
  exact Int.ofNat_lt.mp this
theorem gMul_nn {j k : Nat} {a b : Int} (ha : Nn j a) (hb : Nn k b) (h : j + k ≤ 100000000) : TL.gMul (.int a) (.int b) = some (.int (a * b)) := by
  show (if mulC a b then some (T.int (a * b)) else none) = _
  have : mulC a b = true := decide_eq_true (by have := ha.bits; have := hb.bits; omega)
  rw [this]; rfl
theorem gMod_int {a b : Int} (h : 0 < b) : gMod (.int a) (.int b) = some (.int (a % b)) := by
  show (if decide (0 < b) then some (T.int (a % b)) else none) = _
  rw [decide_eq_true h]; rfl
theorem gDiv_int {a b : Int} (h : 0 < b) (h2 : b < 1073741824) : gDiv (.int a) (.int b) = some (.int (a / b)) := by
  show (if decide (0 < b ∧ b < 1073741824) then some (T.int (a / b)) else none) = _
  rw [decide_eq_true ⟨h, h2⟩]; rfl
theorem runI_rt {k k' : Bool} {N n : Nat} {g : SE → SO} {t0 t u : T} {ts : List T} {ρ : SE} (hl : ts.length + 1 = n) (h : g (iniI N t0 ts) = .rt k' t ρ) (h0 : ρ[0]? = some (.io u)) (hk : (k && !k') = false) : runI k N n g t0 ts = .ok (t, u) := by
  unfold runI outI
  rw [if_pos hl, h]
  dsimp only
  rw [h0]
  dsimp only
  rw [hk]; rfl
theorem seq_rt {g1 g2 : SE → SO} {ρ ρ1 : SE} {k : Bool} {t : T} (h1 : g1 ρ = .rt k t ρ1) : sSeq g1 g2 ρ = .rt k t ρ1 := by unfold sSeq; rw [h1]; rfl
theorem liftVT_ok {f : PEv → PR Bool} {ρ : SE} {t : Bool} (h : f (view ρ) = .ok t) : liftVT f ρ = .ok t ρ := by unfold liftVT; rw [h]
theorem liftVN_ok {f : PEv → PR T} {ρ : SE} {ts : List T} (h : f (view ρ) = .ok (.lst ts)) (hf : ts.all T.isFlat = true) : liftVN f ρ = .ok (.lst ts) ρ := by unfold liftVN; rw [h]; dsimp only; rw [if_pos hf]
theorem forGo_one {g : T → SE → Option SE} {body : SE → SO} {ρ ρ1 ρ2 : SE} {t : T} (h1 : g t ρ = some ρ1) (h2 : body ρ1 = .nx ρ2) : forGo g body [t] ρ = .nx ρ2 := by
  unfold forGo
  rw [h1]
  dsimp only
  rw [h2]
  rfl
theorem par_nx {i j : Nat} {k1 k2 : Bool} {f1 f2 : SE → R T} {ρ ρ1 ρ2 : SE} {t u : T} (h1 : f1 ρ = .ok t ρ1) (h2 : f2 ρ1 = .ok u ρ2) (h : i < ρ2.length ∧ j < ρ2.length ∧ i ≠ j) : sPar i j k1 k2 f1 f2 ρ = .nx ((ρ2.set i (sl k1 t)).set j (sl k2 u)) := by
  unfold sPar; rw [h1, R.thn_ok, h2, R.thn_ok, if_pos h]
theorem par3_nx {i j l : Nat} {k1 k2 k3 : Bool} {f1 f2 f3 : SE → R T} {ρ ρ1 ρ2 ρ3 : SE} {t u v : T} (h1 : f1 ρ = .ok t ρ1) (h2 : f2 ρ1 = .ok u ρ2) (h3 : f3 ρ2 = .ok v ρ3) (h : i < ρ3.length ∧ j < ρ3.length ∧ l < ρ3.length ∧ i ≠ j ∧ i ≠ l ∧ j ≠ l) :
    sPar3 i j l k1 k2 k3 f1 f2 f3 ρ = .nx (((ρ3.set i (sl k1 t)).set j (sl k2 u)).set l (sl k3 v)) := by
  unfold sPar3; rw [h1, R.thn_ok, h2, R.thn_ok, h3, R.thn_ok, if_pos h]
theorem pop_ok {j : Nat} {f : SE → R T} {ρ ρ1 : SE} {ts0 ts : List T} {i : Int} {k : Nat} {y : T} (h0 : ownAt ρ j = some (.lst ts0)) (h1 : f ρ = .ok (.int i) ρ1) (h2 : ownAt ρ1 j = some (.lst ts)) (h3 : small ts = true) (h4 : ixN ts.length i = some k) (h5 : ts[k]? = some y) :
    popAt j f ρ = .ok y (likeAt ρ1 j (.lst (ts.eraseIdx k))) := by
  unfold popAt
  rw [h0]
  dsimp only
  rw [h1, R.bind_ok, h2]
  dsimp only
  rw [if_pos h3, h4]
  dsimp only
  rw [h5]
theorem ixN_nat {n k : Nat} (h : k < n) : ixN n (k : Int) = some k := by
  unfold ixN
  rw [if_pos (by omega), if_pos (by omega), Int.toNat_natCast]
theorem eAnd_f {f g : SE → R Bool} {ρ ρ1 : SE} (h : f ρ = .ok false ρ1) : eAnd f g ρ = .ok false ρ1 := by unfold eAnd; rw [h]; rfl
theorem eAnd_t {f g : SE → R Bool} {ρ ρ1 : SE} {r : R Bool} (h : f ρ = .ok true ρ1) (h2 : g ρ1 = r) : eAnd f g ρ = r := by unfold eAnd; rw [h]; exact h2
theorem ixO_ok {j : Nat} {f : SE → R T} {ρ ρ1 : SE} {ts0 ts : List T} {i : Int} {y : T} (h0 : ownAt ρ j = some (.lst ts0)) (h1 : f ρ = .ok (.int i) ρ1) (h2 : ownAt ρ1 j = some (.lst ts)) (h3 : atI ts i = some y) : eIxO j f ρ = .ok y ρ1 := by
  unfold eIxO
  rw [h0]
  dsimp only
  rw [h1, R.bind_ok, h2]
  dsimp only
  rw [h3]
theorem map_eraseIdx {α β : Type} (f : α → β) : ∀ (l : List α) (k : Nat), (l.map f).eraseIdx k = (l.eraseIdx k).map f
  | [], _ => rfl
  | _ :: _, 0 => rfl
  | x :: l, k + 1 => by rw [List.map_cons, List.eraseIdx_cons_succ, List.eraseIdx_cons_succ, map_eraseIdx f l k, List.map_cons]
theorem erase_perm {α : Type} : ∀ (l : List α) (k : Nat) (x : α), l[k]? = some x → l.Perm (x :: l.eraseIdx k)
  | [], _, _, h => by simp at h
  | y :: l, 0, x, h => by
    have : y = x := by simpa using h
    subst this; exact List.Perm.refl _
  | y :: l, k + 1, x, h => by
    rw [List.eraseIdx_cons_succ]
    exact (List.Perm.cons y (erase_perm l k x (by simpa using h))).trans (List.Perm.swap _ _ _)
theorem enum_getD (ts : List T) : enumT ts = (List.range ts.length).map fun (i : Nat) => T.tup [.int (i : Int), ts.getD i .non] := by
  apply List.ext_getElem?
  intro i
  unfold enumT
  rw [List.getElem?_mapIdx, List.getElem?_map]
  by_cases h : i < ts.length
  · rw [List.getElem?_range h, List.getElem?_eq_getElem h]
    simp [List.getD_eq_getElem?_getD, List.getElem?_eq_getElem h]
  · rw [List.getElem?_eq_none (by omega), List.getElem?_eq_none (by simp; omega)]; rfl
theorem gDix_lst {ts : List T} {i : Nat} (h : i < ts.length) : gDix (.lst ts) (.int (i : Int)) = some (ts.getD i .non) := by
  show atI ts (i : Int) = _
  refine atI_nat ?_
  rw [List.getElem?_eq_getElem h, List.getD_eq_getElem?_getD, List.getElem?_eq_getElem h]; rfl
theorem bls_true : ∀ n, T.bls (List.replicate n (T.bl true)) = some (List.replicate n true)
  | 0 => rfl
  | n + 1 => by rw [List.replicate_succ, List.replicate_succ]; unfold T.bls; rw [bls_true n]; rfl
theorem maxL_is {l : List Int} {m : Int} (h1 : m ∈ l) (h2 : ∀ x ∈ l, x ≤ m) : maxL l = m := by
  have hne : l ≠ [] := fun z => by rw [z] at h1; cases h1
  obtain ⟨a, b⟩ := maxL_spec hne
  have := h2 _ a
  have := b _ h1
  omega
theorem asgW_nx {i d : Nat} {f : SE → R T} {ρ ρ1 : SE} {t : T} (h : f ρ = .ok t ρ1) (hi : i < ρ1.length) : sAsgW i d f ρ = .nx (ρ1.set i (.gd (.new d) t)) := by unfold sAsgW; rw [h, R.thn_ok, if_pos hi]
theorem eLst_ok {fs : SE → R (List T)} {ρ ρ1 : SE} {ts : List T} (h : fs ρ = .ok ts ρ1) (hs : small ts = true) : eLst fs ρ = .ok (.lst ts) ρ1 := by unfold eLst; rw [h, R.bind_ok, if_pos hs]
theorem eTup_ok {fs : SE → R (List T)} {ρ ρ1 : SE} {ts : List T} (h : fs ρ = .ok ts ρ1) (hs : small ts = true) : eTup fs ρ = .ok (.tup ts) ρ1 := by unfold eTup; rw [h, R.bind_ok, if_pos hs]
theorem eNoL_int {f : SE → R T} {ρ ρ1 : SE} {i : Int} (h : f ρ = .ok (.int i) ρ1) : eNoL f ρ = .ok (.int i) ρ1 := by unfold eNoL; rw [h]; rfl
theorem kw_ok {m : List T → PR T} {n : Nat} {pm : List Nat} {fs : PEv → PR (List T)} {ρ : PEv} {ts : List T} {t : T} (h : fs ρ = .ok ts) (hl : ts.length = n) (h2 : m (perm pm ts) = .ok t) : pKw m n pm fs ρ = .ok t := by unfold pKw; rw [h, PR.bind_ok, if_pos hl, h2]
theorem lst_ok {fs : PEv → PR (List T)} {ρ : PEv} {ts : List T} (h : fs ρ = .ok ts) (hs : small ts = true) : pLst fs ρ = .ok (.lst ts) := by unfold pLst; rw [h, PR.bind_ok, if_pos hs]
theorem tru_ok {f : PEv → PR T} {ρ : PEv} {b : Bool} (h : f ρ = .ok (.bl b)) : pTru f ρ = .ok b := by unfold pTru; rw [h]; rfl
theorem not_ok {f : PEv → PR Bool} {ρ : PEv} {b : Bool} (h : f ρ = .ok b) : pNot f ρ = .ok (!b) := by unfold pNot; rw [h]; rfl
theorem or_ok {f g : PEv → PR Bool} {ρ : PEv} {b : Bool} (h : f ρ = .ok false) (h2 : g ρ = .ok b) : pOr f g ρ = .ok b := by unfold pOr; rw [h, PR.bind_ok, if_neg Bool.false_ne_true]; exact h2
theorem ofB_ok {f : PEv → PR Bool} {ρ : PEv} {b : Bool} (h : f ρ = .ok b) : pOfB f ρ = .ok (.bl b) := by unfold pOfB; rw [h]; rfl
theorem spFor_nx {j n k d : Nat} {ρ : SE} {ts : List T} (h : ρ[j]? = some (.gd (.new (d + 2)) (.lst ts))) (h1 : ∀ t ∈ ts.take n, shortL n t = true) (h2 : k < ρ.length) (h3 : ts.length ≤ 1000) : sSpFor j n k ρ = .nx ((spoil ρ).set k .un) := by
  unfold sSpFor
  rw [h]
  dsimp only
  rw [if_pos]
  rw [Bool.and_eq_true]
  exact ⟨List.all_eq_true.mpr h1, decide_eq_true ⟨h2, h3⟩⟩
theorem spoil_row (l : List Int) : spoil1 (.ow (.lst (l.map T.int))) = .ow (.lst (l.map T.int)) := by
  unfold spoil1
  dsimp only
  rw [if_pos (all_flat_int l)]
theorem all_flat_nat (l : List Nat) : (l.map fun (i : Nat) => T.int (i : Int)).all T.isFlat = true := by
  rw [List.all_map]
  exact List.all_eq_true.mpr fun _ _ => rfl
theorem spoil_nats (l : List Nat) : spoil1 (.ow (.lst (l.map fun (i : Nat) => T.int (i : Int)))) = .ow (.lst (l.map fun (i : Nat) => T.int (i : Int))) := by
  unfold spoil1
  dsimp only
  rw [if_pos (all_flat_nat l)]
theorem idxT_is {y : V} : ∀ {vs : List V} {i : Nat} {v : V}, vs[i]? = some v → eqV v y = true → (∀ m z, m < i → vs[m]? = some z → eqV z y = false) → idxT y vs = some i
  | [], i, v, h, _, _ => by simp at h
  | x :: vs, 0, v, h, e, _ => by
    have : x = v := by simpa using h
    subst this
    unfold idxT
    rw [if_pos e]
  | x :: vs, i + 1, v, h, e, hm => by
    unfold idxT
    rw [if_neg (by rw [hm 0 x (by omega) rfl]; exact Bool.false_ne_true), idxT_is (vs := vs) (i := i) (by simpa using h) e fun m z a b => hm (m + 1) z (by omega) (by simpa using b)]
    rfl
theorem lm_ok {g : List T → List T → Option T} {fo : PEv → PR T} {fs : PEv → PR (List T)} {ρ : PEv} {us ts : List T} {t : T} (h1 : fo ρ = .ok (.lst us)) (h2 : fs ρ = .ok ts) (h3 : g us ts = some t) : pLm g fo fs ρ = .ok t := by
  unfold pLm
  rw [h1, PR.bind_ok]
  show (fs ρ).bind _ = _
  rw [h2, PR.bind_ok, h3]; rfl
theorem u_ok {g : T → Option T} {f : PEv → PR T} {ρ : PEv} {t u : T} (h1 : f ρ = .ok t) (h2 : g t = some u) : pU g f ρ = .ok u := by unfold pU; rw [h1, PR.bind_ok, h2]; rfl
theorem gPow_c {a b : Int} (h : decide (0 ≤ b ∧ (Builtin.Int.intBits a : Int) * b ≤ 2 ^ 27) = true) : gPow (.int a) (.int b) = some (.int (a ^ b.toNat)) := by
  show (if decide (0 ≤ b ∧ (Builtin.Int.intBits a : Int) * b ≤ 2 ^ 27) then some (T.int (a ^ b.toNat)) else none) = _
  rw [h]; rfl
theorem eNot_ok {f : SE → R Bool} {ρ ρ1 : SE} {b : Bool} (h : f ρ = .ok b ρ1) : eNot f ρ = .ok (!b) ρ1 := by unfold eNot; rw [h]; rfl
theorem eTru_ok {f : SE → R T} {ρ ρ1 : SE} {b : Bool} (h : f ρ = .ok (.bl b) ρ1) : eTru f ρ = .ok b ρ1 := by unfold eTru; rw [h]; rfl
theorem eItT_ok {f : SE → R T} {ρ ρ1 : SE} {ts : List T} (h : f ρ = .ok (.tup ts) ρ1) : eItT f ρ = .ok ts ρ1 := by unfold eItT; rw [h]; rfl
theorem gList_lst {ts : List T} : gList [.lst ts] = some (.lst ts) := rfl
theorem forGo_cons {g : T → SE → Option SE} {body : SE → SO} {ρ ρ1 ρ2 : SE} {t : T} {ts : List T} {r : SO} (h1 : g t ρ = some ρ1) (h2 : body ρ1 = .nx ρ2) (h3 : forGo g body ts ρ2 = r) : forGo g body (t :: ts) ρ = r := by
  show (match g t ρ with
    | none => SO.bad
    | some ρ1 => match body ρ1 with
      | .nx ρ2 => forGo g body ts ρ2
      | .ct ρ2 => forGo g body ts ρ2
      | .bk ρ2 => .nx ρ2
      | r => r) = r
  rw [h1]
  dsimp only
  rw [h2]
  exact h3
end TL

set_option Elab.async false
set_option linter.all false
set_option maxRecDepth 100000
/-! TV: rules of a walk through mirrors that goes by itself. -/
namespace TL
open PySem L2 PySem.PyData
theorem v_ok {i : Nat} {ρ : PEv} {t : T} (h : ρ[i]? = some (some t)) : pV i ρ = .ok t := by unfold pV; rw [h]
theorem own_ok {j : Nat} {ρ : SE} {t : T} (h : (ρ[j]?).bind Sl.own = some t) : ownAt ρ j = some t := h
theorem c_ok {ρ : PEv} {t : T} : pC t ρ = .ok t := rfl
theorem x_and {f g : PEv → PR Bool} {ρ : PEv} {a b c : Bool} (h : f ρ = .ok a) (h2 : a = true → g ρ = .ok b) (h3 : (a && b) = c) : pAnd f g ρ = .ok c := by
  unfold pAnd; rw [h, PR.bind_ok]; cases a
  · subst h3; rfl
  · rw [if_pos rfl, h2 rfl, ← h3]; rfl
theorem x_or {f g : PEv → PR Bool} {ρ : PEv} {a b c : Bool} (h : f ρ = .ok a) (h2 : a = false → g ρ = .ok b) (h3 : (a || b) = c) : pOr f g ρ = .ok c := by
  unfold pOr; rw [h, PR.bind_ok]; cases a
  · rw [if_neg Bool.false_ne_true, h2 rfl, ← h3]; rfl
  · subst h3; rfl
theorem asB_ok {f : PEv → PR T} {ρ : PEv} {b : Bool} (h : f ρ = .ok (.bl b)) : pAsB f ρ = .ok b := by unfold pAsB; rw [h]; rfl
theorem x_andV {f g : PEv → PR T} {ρ : PEv} {a b : Bool} {c : T} (h : f ρ = .ok (.bl a)) (h2 : a = true → g ρ = .ok (.bl b)) (h3 : .bl (a && b) = c) : pAndV f g ρ = .ok c := by
  unfold pAndV; rw [asB_ok h, PR.bind_ok]; cases a
  · subst h3; rfl
  · rw [if_pos rfl, h2 rfl, ← h3]; rfl
theorem x_orV {f g : PEv → PR T} {ρ : PEv} {a b : Bool} {c : T} (h : f ρ = .ok (.bl a)) (h2 : a = false → g ρ = .ok (.bl b)) (h3 : .bl (a || b) = c) : pOrV f g ρ = .ok c := by
  unfold pOrV; rw [asB_ok h, PR.bind_ok]; cases a
  · rw [if_neg Bool.false_ne_true, h2 rfl, ← h3]; rfl
  · subst h3; rfl
theorem x_notV {f : PEv → PR T} {ρ : PEv} {a : Bool} {c : T} (h : f ρ = .ok (.bl a)) (h3 : .bl (!a) = c) : pNotV f ρ = .ok c := by
  unfold pNotV; rw [asB_ok h, PR.bind_ok, h3]
theorem x_not {f : PEv → PR Bool} {ρ : PEv} {a c : Bool} (h : f ρ = .ok a) (h3 : (!a) = c) : pNot f ρ = .ok c := by
  unfold pNot; rw [h, PR.bind_ok, h3]
theorem x_if {α : Type} {t : PEv → PR Bool} {f g : PEv → PR α} {ρ : PEv} {b : Bool} {x y c : α} (h : t ρ = .ok b) (h1 : b = true → f ρ = .ok x) (h2 : b = false → g ρ = .ok y) (h3 : (if b = true then x else y) = c) : pIf t f g ρ = .ok c := by
  unfold pIf; rw [h, PR.bind_ok]; cases b
  · rw [if_neg Bool.false_ne_true] at h3 ⊢; rw [h2 rfl, h3]
  · rw [if_pos rfl] at h3 ⊢; rw [h1 rfl, h3]
theorem x_ch {g g' : T → T → Option Bool} {fa fb fc : PEv → PR T} {ρ : PEv} {a b d : T} {z z' c : Bool} (h1 : fa ρ = .ok a) (h2 : fb ρ = .ok b) (h3 : g a b = some z) (h4 : fc ρ = .ok d) (h5 : g' b d = some z') (h6 : (z && z') = c) : pCh g g' fa fb fc ρ = .ok c := by
  unfold pCh; rw [h1, PR.bind_ok, h2, PR.bind_ok, h3, PR.of_some, PR.bind_ok]
  cases z
  · subst h6; rfl
  · rw [if_pos rfl, h4, PR.bind_ok, h5, ← h6]; rfl
theorem x_isN {f : PEv → PR T} {ρ : PEv} {t : T} {b : Bool} (h : f ρ = .ok t) (h2 : t.isN = b) : pIsN f ρ = .ok b := by unfold pIsN; rw [h, PR.bind_ok, h2]
theorem x_notN {f : PEv → PR T} {ρ : PEv} {t : T} {b : Bool} (h : f ρ = .ok t) (h2 : (!t.isN) = b) : pNotN f ρ = .ok b := by unfold pNotN; rw [h, PR.bind_ok, h2]
theorem x_lst {fs : PEv → PR (List T)} {ρ : PEv} {ts : List T} {c : T} (h : fs ρ = .ok ts) (hs : small ts = true) (h3 : .lst ts = c) : pLst fs ρ = .ok c := by rw [lst_ok h hs, h3]
theorem x_tup {fs : PEv → PR (List T)} {ρ : PEv} {ts : List T} {c : T} (h : fs ρ = .ok ts) (hs : small ts = true) (h3 : .tup ts = c) : pTup fs ρ = .ok c := by unfold pTup; rw [h, PR.bind_ok, if_pos hs, h3]
theorem x_itL {f : PEv → PR T} {ρ : PEv} {ts us : List T} (h : f ρ = .ok (.lst ts)) (h2 : ts = us) : pItL f ρ = .ok us := by subst h2; unfold pItL; rw [h]; rfl
theorem x_itT {f : PEv → PR T} {ρ : PEv} {ts us : List T} (h : f ρ = .ok (.tup ts)) (h2 : ts = us) : pItT f ρ = .ok us := by subst h2; unfold pItT; rw [h]; rfl
theorem x_enum {fs : PEv → PR (List T)} {ρ : PEv} {ts us : List T} (h : fs ρ = .ok [.lst ts]) (h2 : enumT ts = us) : pEnum fs ρ = .ok us := by subst h2; unfold pEnum; rw [h]; rfl
theorem x_rng1 {fs : PEv → PR (List T)} {ρ : PEv} {k : Int} {n : Nat} (h : fs ρ = .ok [.int k]) (hk : k = (n : Nat)) (hn : n ≤ 1000000) : pRng1 fs ρ = .ok ((List.range n).map fun (i : Nat) => T.int (i : Int)) := by
  subst hk; exact rng1_ok h hn
theorem x_rng2 {fs : PEv → PR (List T)} {ρ : PEv} {a b : Int} (h : fs ρ = .ok [.int a, .int b]) (ha : 0 ≤ a ∧ a ≤ 1000000) (hb : 0 ≤ b ∧ b ≤ 1000000) : pRng2 fs ρ = .ok ((List.range (b - a).toNat).map fun (i : Nat) => T.int (a + (i : Int))) := by
  unfold pRng2
  rw [h, PR.bind_ok]
  dsimp only
  rw [if_pos (by omega)]
  rfl
/-- one turn of a comprehension -/
theorem x_lc {α : Type} {it : PEv → PR (List T)} {vs : List Nat} {tg : T → PEv → Option PEv} {tst : PEv → PR Bool} {elt : PEv → PR T} {ρ : PEv} {c : T} {l : List α} {e : α → T} {p : α → Bool} {f : α → T} (h1 : it ρ = .ok (l.map e)) (h2 : l.length ≤ 1000000)
    (h : ∀ a ∈ l, ∃ ρ1, tg (e a) (wipeP ρ vs) = some ρ1 ∧ tst ρ1 = .ok (p a) ∧ (p a = true → elt ρ1 = .ok (f a))) (h3 : .lst ((l.filter p).map f) = c) : pLc it vs tg tst elt ρ = .ok c := by
  rw [← h3]; exact pLc_on l e p f h1 h2 h
theorem x_lcA {α : Type} {it : PEv → PR (List T)} {vs : List Nat} {tg : T → PEv → Option PEv} {elt : PEv → PR T} {ρ : PEv} {c : T} {l : List α} {e : α → T} {f : α → T} (h1 : it ρ = .ok (l.map e)) (h2 : l.length ≤ 1000000)
    (h : ∀ a ∈ l, ∃ ρ1, tg (e a) (wipeP ρ vs) = some ρ1 ∧ elt ρ1 = .ok (f a)) (h3 : .lst (l.map f) = c) : pLc it vs tg pYes elt ρ = .ok c := by
  rw [← h3]; exact pLc_all l e f h1 h2 h
theorem x_sl {f : PEv → PR T} {l h : PEv → PR (Option Int)} {ρ : PEv} {ts : List T} {a b : Option Int} {c : T} (h1 : f ρ = .ok (.lst ts)) (h2 : l ρ = .ok a) (h3 : h ρ = .ok b) (h4 : .lst (cutT ts a b) = c) : pSl f l h ρ = .ok c := by
  unfold pSl; rw [h1, PR.bind_ok, h2, PR.bind_ok, h3, PR.bind_ok, ← h4]; rfl
theorem x_part {f : PEv → PR T} {ρ : PEv} {i : Int} (h : f ρ = .ok (.int i)) : pPart f ρ = .ok (some i) := by unfold pPart; rw [h]; rfl
theorem x_noPart {ρ : PEv} : pNoPart ρ = .ok none := rfl
theorem x_lr1 {f : PEv → PR T} {ρ : PEv} {k : Int} {n : Nat} {c : T} (h : f ρ = .ok (.int k)) (hk : k = (n : Nat)) (hn : n ≤ 1000000) (h3 : .lst ((List.range n).map fun (i : Nat) => T.int (i : Int)) = c) : pLR1 f ρ = .ok c := by
  subst hk
  unfold pLR1; rw [h, PR.bind_ok]
  dsimp only
  rw [if_pos (by omega), Int.toNat_natCast, rng0, h3]
theorem x_lr2 {f g : PEv → PR T} {ρ : PEv} {a b : Int} {c : T} (h : f ρ = .ok (.int a)) (h' : g ρ = .ok (.int b)) (ha : 0 ≤ a ∧ a ≤ 1000000) (hb : 0 ≤ b ∧ b ≤ 1000000) (h3 : .lst ((List.range (b - a).toNat).map fun (i : Nat) => T.int (a + (i : Int))) = c) : pLR2 f g ρ = .ok c := by
  unfold pLR2; rw [h, PR.bind_ok, h', PR.bind_ok]
  dsimp only
  rw [if_pos (by omega), ← h3]; rfl
theorem x_truB {f : PEv → PR T} {ρ : PEv} {b : Bool} (h : f ρ = .ok (.bl b)) : pTru f ρ = .ok b := tru_ok h
theorem x_ofB {f : PEv → PR Bool} {ρ : PEv} {b : Bool} {c : T} (h : f ρ = .ok b) (h2 : .bl b = c) : pOfB f ρ = .ok c := by rw [ofB_ok h, h2]
theorem x_lm {g : List T → List T → Option T} {fo : PEv → PR T} {fs : PEv → PR (List T)} {ρ : PEv} {us ts : List T} {t : T} (h1 : fo ρ = .ok (.lst us)) (h2 : fs ρ = .ok ts) (h3 : g us ts = some t) : pLm g fo fs ρ = .ok t := lm_ok h1 h2 h3
/-! statements -/
theorem x_seqifF {t : SE → R Bool} {g1 g2 : SE → SO} {ρ ρ1 : SE} {b : Bool} {r : SO} (h1 : t ρ = .ok b ρ1) (hb : b = false) (h2 : g2 ρ1 = r) : sSeq (sIf t g1 SO.nx) g2 ρ = r := by
  subst hb; exact seq_nx (if_f h1 rfl) h2
theorem x_ifF {t : SE → R Bool} {g1 : SE → SO} {ρ ρ1 : SE} {b : Bool} {r : SO} (h1 : t ρ = .ok b ρ1) (hb : b = false) (h2 : .nx ρ1 = r) : sIf t g1 SO.nx ρ = r := by
  subst hb; exact if_f h1 h2
theorem x_asg {i : Nat} {k : Bool} {f : SE → R T} {ρ ρ1 ρ2 : SE} {t : T} (h : f ρ = .ok t ρ1) (hi : i < ρ1.length) (he : ρ1.set i (sl k t) = ρ2) : sAsg i k f ρ = .nx ρ2 := by rw [asg_nx h hi, he]
theorem x_app {j : Nat} {f : SE → R T} {ρ ρ1 ρ2 : SE} {ts ts1 : List T} {t : T} (h1 : ownAt ρ j = some (.lst ts)) (h2 : f ρ = .ok t ρ1) (h3 : ownAt ρ1 j = some (.lst ts1)) (h4 : ts1.length < 16777216) (he : likeAt ρ1 j (.lst (ts1 ++ [t])) = ρ2) : sApp j f ρ = .nx ρ2 := by rw [app_nx h1 h2 h3 h4, he]
theorem x_par {i j : Nat} {k1 k2 : Bool} {f1 f2 : SE → R T} {ρ ρ1 ρ2 ρ3 : SE} {t u : T} (h1 : f1 ρ = .ok t ρ1) (h2 : f2 ρ1 = .ok u ρ2) (h : i < ρ2.length ∧ j < ρ2.length ∧ i ≠ j) (he : (ρ2.set i (sl k1 t)).set j (sl k2 u) = ρ3) : sPar i j k1 k2 f1 f2 ρ = .nx ρ3 := by rw [par_nx h1 h2 h, he]
theorem x_par3 {i j l : Nat} {k1 k2 k3 : Bool} {f1 f2 f3 : SE → R T} {ρ ρ1 ρ2 ρ3 ρ4 : SE} {t u v : T} (h1 : f1 ρ = .ok t ρ1) (h2 : f2 ρ1 = .ok u ρ2) (h3 : f3 ρ2 = .ok v ρ3) (h : i < ρ3.length ∧ j < ρ3.length ∧ l < ρ3.length ∧ i ≠ j ∧ i ≠ l ∧ j ≠ l)
    (he : ((ρ3.set i (sl k1 t)).set j (sl k2 u)).set l (sl k3 v) = ρ4) : sPar3 i j l k1 k2 k3 f1 f2 f3 ρ = .nx ρ4 := by rw [par3_nx h1 h2 h3 h, he]
theorem x_tupS {is : List Nat} {f : SE → R T} {ρ ρ1 ρ2 : SE} {t : T} (h : f ρ = .ok t ρ1) (h2 : gTE is t ρ1 = some ρ2) : sTup is f ρ = .nx ρ2 := by unfold sTup; rw [h, R.thn_ok, h2]
theorem x_runP {k k' : Bool} {N n : Nat} {g : SE → SO} {ts : List T} {t : T} {ρ ρ0 : SE} (hl : ts.length = n) (h0 : ini N ts = ρ0) (h : g ρ0 = .rt k' t ρ) (hk : (k && !k') = false) : runP k N n g ts = .ok t := runP_rt hl (by rw [h0]; exact h) hk
theorem x_runN {N n : Nat} {g : SE → SO} {ts : List T} {ρ ρ0 : SE} (hl : ts.length = n) (h0 : ini N ts = ρ0) (h : g ρ0 = .nx ρ) : runP false N n g ts = .ok .non := runP_nx hl (by rw [h0]; exact h)
theorem x_runI {k k' : Bool} {N n : Nat} {g : SE → SO} {t0 t u : T} {ts : List T} {ρ ρ0 : SE} (hl : ts.length + 1 = n) (h0 : iniI N t0 ts = ρ0) (h : g ρ0 = .rt k' t ρ) (h1 : ρ[0]? = some (.io u)) (hk : (k && !k') = false) : runI k N n g t0 ts = .ok (t, u) := runI_rt hl (by rw [h0]; exact h) h1 hk
theorem x_eLst {fs : SE → R (List T)} {ρ ρ1 : SE} {ts : List T} {c : T} (h : fs ρ = .ok ts ρ1) (hs : small ts = true) (h3 : .lst ts = c) : eLst fs ρ = .ok c ρ1 := by rw [eLst_ok h hs, h3]
theorem x_eTup {fs : SE → R (List T)} {ρ ρ1 : SE} {ts : List T} {c : T} (h : fs ρ = .ok ts ρ1) (hs : small ts = true) (h3 : .tup ts = c) : eTup fs ρ = .ok c ρ1 := by rw [eTup_ok h hs, h3]
theorem x_eIo {l : Nat} {m : T → List T → PR (T × T)} {fs : SE → R (List T)} {ρ ρ1 ρ2 : SE} {t00 t0 r u : T} {ts : List T} (h0 : ownAt ρ l = some t00) (h1 : fs ρ = .ok ts ρ1) (h2 : ownAt ρ1 l = some t0) (h3 : m t0 ts = .ok (r, u)) (he : likeAt ρ1 l u = ρ2) : eIo l m fs ρ = .ok r ρ2 := by rw [eIo_ok h0 h1 h2 h3, he]
theorem x_mvS {j : Nat} {ρ : SE} {t : T} {ρ1 : SE} (h : mvS j ρ = .ok t ρ1) : mvS j ρ = .ok t ρ1 := h
/-! operators -/
theorem gAdd_i (a b : Int) : gAdd (.int a) (.int b) = some (.int (a + b)) := rfl
theorem gSub_i (a b : Int) : TL.gSub (.int a) (.int b) = some (.int (a - b)) := rfl
theorem gNeg_i (a : Int) : gNeg (.int a) = some (.int (-a)) := rfl
theorem gCmp_i (p : Int → Int → Bool) (a b : Int) : gCmp p (.int a) (.int b) = some (p a b) := rfl
theorem gInt1_i (a : Int) : gInt1 [.int a] = some (.int a) := rfl
theorem gIsi_ll (ts : List T) : gIsi [.lst ts, .ty "list"] = some (.bl true) := rfl
theorem gIsi_ii (a : Int) : gIsi [.int a, .ty "int"] = some (.bl true) := rfl
theorem gIsi_ib (a : Int) : gIsi [.int a, .ty "bool"] = some (.bl false) := rfl
theorem len_map {α : Type} (f : α → T) (l : List α) : gLenA [.lst (l.map f)] = some (.int (l.length : Nat)) := by
  show some (T.int ((l.map f).length : Nat)) = _
  rw [List.length_map]
theorem gDix_map {α : Type} (f : α → T) {l : List α} {k : Int} {i : Nat} {x : α} (hk : k = (i : Nat)) (h : l[i]? = some x) : gDix (.lst (l.map f)) (.int k) = some (f x) := by
  subst hk
  show atI (l.map f) (i : Nat) = _
  refine atI_nat ?_
  rw [List.getElem?_map, h]; rfl
theorem gDix_rng (f : Nat → T) {n : Nat} {k : Int} {i : Nat} (hk : k = (i : Nat)) (h : i < n) : gDix (.lst ((List.range n).map f)) (.int k) = some (f i) := gDix_map f hk (List.getElem?_range h)
theorem gDix_int {l : List Int} {k : Int} {i : Nat} (hk : k = (i : Nat)) (h : i < l.length) : gDix (.lst (l.map T.int)) (.int k) = some (.int (l.getD i 0)) := by subst hk; exact gIx_int h
theorem enum_int (l : List Int) : enumT (l.map T.int) = (List.range l.length).map fun i => T.tup [.int (i : Nat), .int (l.getD i 0)] := enum_range l
theorem enum_rng (n : Nat) (g : Nat → T) : enumT ((List.range n).map g) = (List.range n).map fun i => T.tup [.int (i : Nat), g i] := enum_map (fun x : Nat => T.non) n g
theorem gInA_int (x : Int) (l : List Int) : gInA (.int x) (.lst (l.map T.int)) = some (decide (x ∈ l)) := by
  unfold gInA; rw [gIn_int]; rfl
theorem gNe_int (a b : Int) : gNe (.int a) (.int b) = some (!decide (a = b)) := by unfold gNe; rw [gEq_int]; rfl
theorem gMax2_i (a b : Int) : gMax2 [.int a, .int b] = some (.int (max a b)) := by
  show some (T.int (if b > a then b else a)) = _
  congr 2
  omega
theorem gCat_map {α : Type} (f : α → T) {a b : List α} (h : a.length + b.length ≤ 16777216) : gCat (.lst (a.map f)) (.lst (b.map f)) = some (.lst ((a ++ b).map f)) := by
  show (if small (a.map f ++ b.map f) then _ else _) = _
  rw [← List.map_append, if_pos]
  unfold small
  rw [List.length_map, List.length_append]
  exact decide_eq_true h
/-! equality of plain data -/
mutual
/-- data without truth values -/
def T.pl : T → Bool
  | .non => true
  | .int _ => true
  | .str x => strOk x
  | .lst ts => T.pls ts
  | .tup ts => T.pls ts
  | .bl _ => false
  | .dct _ _ => false
  | .set _ => false
  | .fn _ => false
  | .scr _ => false
  | .ty _ => false
def T.pls : List T → Bool
  | [] => true
  | t :: ts => t.pl && T.pls ts
end
mutual
def T.dep : T → Nat
  | .lst ts => T.deps ts + 1
  | .tup ts => T.deps ts + 1
  | .non => 0
  | .int _ => 0
  | .str _ => 0
  | .bl _ => 0
  | .dct _ _ => 0
  | .set _ => 0
  | .fn _ => 0
  | .scr _ => 0
  | .ty _ => 0
def T.deps : List T → Nat
  | [] => 0
  | t :: ts => max t.dep (T.deps ts)
end
theorem pls_iff : ∀ {l : List T}, T.pls l = true ↔ ∀ t ∈ l, t.pl = true
  | [] => by unfold T.pls; simp
  | a :: l => by
    unfold T.pls
    rw [Bool.and_eq_true, pls_iff (l := l)]
    simp
theorem pls_map {α : Type} (f : α → T) (l : List α) (h : ∀ a ∈ l, (f a).pl = true) : T.pls (l.map f) = true := pls_iff.mpr fun t ht => by
  obtain ⟨a, ha, rfl⟩ := List.mem_map.mp ht
  exact h a ha
theorem deps_le {n : Nat} : ∀ {l : List T}, (∀ t ∈ l, t.dep ≤ n) → T.deps l ≤ n
  | [], _ => by unfold T.deps; exact Nat.zero_le _
  | a :: l, h => by
    unfold T.deps
    exact Nat.max_le.mpr ⟨h a List.mem_cons_self, deps_le fun t ht => h t (List.mem_cons_of_mem _ ht)⟩
mutual
theorem T.pl_d : ∀ (t : T), t.pl = true → ∃ d, t.d = some d ∧ d.canLay0 = true ∧ d.depth = t.dep
  | .non, _ => ⟨.none, rfl, by unfold PyData.canLay0; rfl, by unfold PyData.depth T.dep; rfl⟩
  | .int i, _ => ⟨.int i, rfl, by unfold PyData.canLay0; rfl, by unfold PyData.depth T.dep; rfl⟩
  | .str x, h => ⟨.str x, rfl, by unfold T.pl at h; unfold PyData.canLay0; exact h, by unfold PyData.depth T.dep; rfl⟩
  | .lst ts, h => by
    obtain ⟨ds, e, s, q⟩ := T.pls_d ts (by unfold T.pl at h; exact h)
    exact ⟨.list ds, by unfold T.d; rw [e]; rfl, by unfold PyData.canLay0; exact s, by unfold PyData.depth T.dep; rw [q]⟩
  | .tup ts, h => by
    obtain ⟨ds, e, s, q⟩ := T.pls_d ts (by unfold T.pl at h; exact h)
    exact ⟨.tuple ds, by unfold T.d; rw [e]; rfl, by unfold PyData.canLay0; exact s, by unfold PyData.depth T.dep; rw [q]⟩
  | .bl _, h => by unfold T.pl at h; cases h
  | .dct _ _, h => by unfold T.pl at h; cases h
  | .set _, h => by unfold T.pl at h; cases h
  | .fn _, h => by unfold T.pl at h; cases h
  | .scr _, h => by unfold T.pl at h; cases h
  | .ty _, h => by unfold T.pl at h; cases h
theorem T.pls_d : ∀ (ts : List T), T.pls ts = true → ∃ ds, T.ds ts = some ds ∧ PyData.canLayAll0 ds = true ∧ PyData.depthAll ds = T.deps ts
  | [], _ => ⟨[], by unfold T.ds; rfl, by unfold PyData.canLayAll0; rfl, by unfold PyData.depthAll T.deps; rfl⟩
  | t :: ts, h => by
    unfold T.pls at h
    rw [Bool.and_eq_true] at h
    obtain ⟨d, e, s, q⟩ := T.pl_d t h.1
    obtain ⟨ds, e2, s2, q2⟩ := T.pls_d ts h.2
    exact ⟨d :: ds, by unfold T.ds; rw [e, e2]; rfl, by unfold PyData.canLayAll0; rw [s, s2]; rfl, by unfold PyData.depthAll T.deps; rw [q, q2]⟩
end
theorem ds_some {ts : List T} {x : PyData} {f : List PyData → PyData} (h : (T.ds ts).map f = some x) : ∃ ds, T.ds ts = some ds ∧ x = f ds := by
  cases q : T.ds ts with
  | none => rw [q] at h; cases h
  | some ds => rw [q] at h; cases h; exact ⟨ds, rfl, rfl⟩
mutual
theorem eqv_pl : ∀ (t u : T) (d e : PyData), t.pl = true → u.pl = true → t.d = some d → u.d = some e → (PyData.eqv d e = true ↔ t = u)
  | .non, u, d, e, _, hu, hd, he => by
    cases hd
    cases u with
    | non => cases he; unfold PyData.eqv; simp
    | int j => cases he; unfold PyData.eqv; simp
    | str j => cases he; unfold PyData.eqv; simp
    | lst us => obtain ⟨ds, _, rfl⟩ := ds_some (by unfold T.d at he; exact he); unfold PyData.eqv; simp
    | tup us => obtain ⟨ds, _, rfl⟩ := ds_some (by unfold T.d at he; exact he); unfold PyData.eqv; simp
    | _ => unfold T.pl at hu; cases hu
  | .int i, u, d, e, _, hu, hd, he => by
    cases hd
    cases u with
    | non => cases he; unfold PyData.eqv; simp
    | int j => cases he; unfold PyData.eqv; simp
    | str j => cases he; unfold PyData.eqv; simp
    | lst us => obtain ⟨ds, _, rfl⟩ := ds_some (by unfold T.d at he; exact he); unfold PyData.eqv; simp
    | tup us => obtain ⟨ds, _, rfl⟩ := ds_some (by unfold T.d at he; exact he); unfold PyData.eqv; simp
    | _ => unfold T.pl at hu; cases hu
  | .str i, u, d, e, _, hu, hd, he => by
    cases hd
    cases u with
    | non => cases he; unfold PyData.eqv; simp
    | int j => cases he; unfold PyData.eqv; simp
    | str j => cases he; unfold PyData.eqv; simp
    | lst us => obtain ⟨ds, _, rfl⟩ := ds_some (by unfold T.d at he; exact he); unfold PyData.eqv; simp
    | tup us => obtain ⟨ds, _, rfl⟩ := ds_some (by unfold T.d at he; exact he); unfold PyData.eqv; simp
    | _ => unfold T.pl at hu; cases hu
  | .lst ts, u, d, e, ht, hu, hd, he => by
    obtain ⟨ds, e1, rfl⟩ := ds_some (by unfold T.d at hd; exact hd)
    cases u with
    | non => cases he; unfold PyData.eqv; simp
    | int j => cases he; unfold PyData.eqv; simp
    | str j => cases he; unfold PyData.eqv; simp
    | lst us =>
      obtain ⟨es, e2, rfl⟩ := ds_some (by unfold T.d at he; exact he)
      have := eqvs_pl ts us ds es (by unfold T.pl at ht; exact ht) (by unfold T.pl at hu; exact hu) e1 e2
      unfold PyData.eqv; rw [this]; simp
    | tup us => obtain ⟨ds, _, rfl⟩ := ds_some (by unfold T.d at he; exact he); unfold PyData.eqv; simp
    | _ => unfold T.pl at hu; cases hu
  | .tup ts, u, d, e, ht, hu, hd, he => by
    obtain ⟨ds, e1, rfl⟩ := ds_some (by unfold T.d at hd; exact hd)
    cases u with
    | non => cases he; unfold PyData.eqv; simp
    | int j => cases he; unfold PyData.eqv; simp
    | str j => cases he; unfold PyData.eqv; simp
    | tup us =>
      obtain ⟨es, e2, rfl⟩ := ds_some (by unfold T.d at he; exact he)
      have := eqvs_pl ts us ds es (by unfold T.pl at ht; exact ht) (by unfold T.pl at hu; exact hu) e1 e2
      unfold PyData.eqv; rw [this]; simp
    | lst us => obtain ⟨ds, _, rfl⟩ := ds_some (by unfold T.d at he; exact he); unfold PyData.eqv; simp
    | _ => unfold T.pl at hu; cases hu
  | .bl _, _, _, _, h, _, _, _ => by unfold T.pl at h; cases h
  | .dct _ _, _, _, _, h, _, _, _ => by unfold T.pl at h; cases h
  | .set _, _, _, _, h, _, _, _ => by unfold T.pl at h; cases h
  | .fn _, _, _, _, h, _, _, _ => by unfold T.pl at h; cases h
  | .scr _, _, _, _, h, _, _, _ => by unfold T.pl at h; cases h
  | .ty _, _, _, _, h, _, _, _ => by unfold T.pl at h; cases h
theorem eqvs_pl : ∀ (ts us : List T) (ds es : List PyData), T.pls ts = true → T.pls us = true → T.ds ts = some ds → T.ds us = some es → (PyData.eqvAll ds es = true ↔ ts = us)
  | [], [], ds, es, _, _, e1, e2 => by unfold T.ds at e1 e2; cases e1; cases e2; unfold PyData.eqvAll; simp
  | [], u :: us, ds, es, _, h2, e1, e2 => by
    unfold T.ds at e1; cases e1
    obtain ⟨ds', e', _⟩ := T.pls_d (u :: us) h2
    rw [e2] at e'; cases e'
    unfold T.ds at e2
    cases q : T.d u with
    | none => rw [q] at e2; cases e2
    | some x =>
      rw [q] at e2
      cases q2 : T.ds us with
      | none => rw [q2] at e2; cases e2
      | some r => rw [q2] at e2; cases e2; unfold PyData.eqvAll; simp
  | t :: ts, [], ds, es, h1, _, e1, e2 => by
    unfold T.ds at e2; cases e2
    unfold T.ds at e1
    cases q : T.d t with
    | none => rw [q] at e1; cases e1
    | some x =>
      rw [q] at e1
      cases q2 : T.ds ts with
      | none => rw [q2] at e1; cases e1
      | some r => rw [q2] at e1; cases e1; unfold PyData.eqvAll; simp
  | t :: ts, u :: us, ds, es, h1, h2, e1, e2 => by
    unfold T.pls at h1 h2
    rw [Bool.and_eq_true] at h1 h2
    unfold T.ds at e1 e2
    obtain ⟨x, qx, _⟩ := T.pl_d t h1.1
    obtain ⟨y, qy, _⟩ := T.pl_d u h2.1
    obtain ⟨xs, qxs, _⟩ := T.pls_d ts h1.2
    obtain ⟨ys, qys, _⟩ := T.pls_d us h2.2
    rw [qx, qxs] at e1; cases e1
    rw [qy, qys] at e2; cases e2
    unfold PyData.eqvAll
    rw [Bool.and_eq_true, eqv_pl t u x y h1.1 h2.1 qx qy, eqvs_pl ts us xs ys h1.2 h2.2 qxs qys]
    simp
end
open Classical in
theorem gEq_pl {t u : T} (ht : t.pl = true) (hu : u.pl = true) (h1 : t.dep ≤ 64) (h2 : u.dep ≤ 64) : gEq t u = some (decide (t = u)) := by
  obtain ⟨d, e1, c1, q1⟩ := T.pl_d t ht
  obtain ⟨e, e2, c2, q2⟩ := T.pl_d u hu
  have s1 : SeqAt.shaped d = true := by unfold SeqAt.shaped; rw [c1, q1]; exact decide_eq_true h1
  have s2 : SeqAt.shaped e = true := by unfold SeqAt.shaped; rw [c2, q2]; exact decide_eq_true h2
  unfold gEq
  rw [e1, e2]
  show (if SeqAt.shaped d && SeqAt.shaped e then some (PyData.eqv d e) else none) = _
  rw [s1, s2]
  have := eqv_pl t u d e ht hu e1 e2
  show some _ = _
  congr 1
  by_cases h : t = u
  · rw [this.mpr h, decide_eq_true h]
  · rw [decide_eq_false h]
    cases q : PyData.eqv d e with
    | true => exact absurd (this.mp q) h
    | false => rfl
open Classical in
theorem gNe_pl {t u : T} (ht : t.pl = true) (hu : u.pl = true) (h1 : t.dep ≤ 64) (h2 : u.dep ≤ 64) : gNe t u = some (!decide (t = u)) := by
  unfold gNe; rw [gEq_pl ht hu h1 h2]; rfl
theorem pl_ints (l : List Int) : (T.lst (l.map T.int)).pl = true := by unfold T.pl; exact pls_map _ _ fun _ _ => by unfold T.pl; rfl
theorem dep_ints (l : List Int) : (T.lst (l.map T.int)).dep ≤ 1 := by
  unfold T.dep
  have : T.deps (l.map T.int) ≤ 0 := deps_le fun t ht => by obtain ⟨a, _, rfl⟩ := List.mem_map.mp ht; unfold T.dep; exact Nat.le_refl 0
  omega
end TL
namespace TL
open PySem L2
/-- a comprehension's turns -/
def LcS {α : Type} (tg : T → PEv → Option PEv) (tst : PEv → PR Bool) (elt : PEv → PR T) (ρ : PEv) (l : List α) (e : α → T) (p : α → Bool) (f : α → T) : Prop := ∀ a ∈ l, ∃ ρ1, tg (e a) ρ = some ρ1 ∧ tst ρ1 = .ok (p a) ∧ (p a = true → elt ρ1 = .ok (f a))
theorem lcS_in {α : Type} {tg : T → PEv → Option PEv} {tst : PEv → PR Bool} {elt : PEv → PR T} {ρ : PEv} {l : List α} {e : α → T} {p : α → Bool} {f : α → T} {ρ1 : α → PEv} (h1 : ∀ a, tg (e a) ρ = some (ρ1 a)) (h2 : ∀ a ∈ l, tst (ρ1 a) = .ok (p a)) (h3 : ∀ a ∈ l, p a = true → elt (ρ1 a) = .ok (f a)) :
    LcS tg tst elt ρ l e p f := fun a ha => ⟨ρ1 a, h1 a, h2 a ha, h3 a ha⟩
def LcA {α : Type} (tg : T → PEv → Option PEv) (elt : PEv → PR T) (ρ : PEv) (l : List α) (e : α → T) (f : α → T) : Prop := ∀ a ∈ l, ∃ ρ1, tg (e a) ρ = some ρ1 ∧ elt ρ1 = .ok (f a)
theorem lcA_in {α : Type} {tg : T → PEv → Option PEv} {elt : PEv → PR T} {ρ : PEv} {l : List α} {e : α → T} {f : α → T} {ρ1 : α → PEv} (h1 : ∀ a, tg (e a) ρ = some (ρ1 a)) (h3 : ∀ a ∈ l, elt (ρ1 a) = .ok (f a)) :
    LcA tg elt ρ l e f := fun a ha => ⟨ρ1 a, h1 a, h3 a ha⟩
theorem y_lc {α : Type} {it : PEv → PR (List T)} {vs : List Nat} {tg : T → PEv → Option PEv} {tst : PEv → PR Bool} {elt : PEv → PR T} {ρ : PEv} {c : T} {l : List α} {e : α → T} {p : α → Bool} {f : α → T} (h1 : it ρ = .ok (l.map e)) (h2 : l.length ≤ 1000000)
    (h : LcS tg tst elt (wipeP ρ vs) l e p f) (h3 : .lst ((l.filter p).map f) = c) : pLc it vs tg tst elt ρ = .ok c := x_lc h1 h2 h h3
theorem y_lcA {α : Type} {it : PEv → PR (List T)} {vs : List Nat} {tg : T → PEv → Option PEv} {elt : PEv → PR T} {ρ : PEv} {c : T} {l : List α} {e : α → T} {f : α → T} (h1 : it ρ = .ok (l.map e)) (h2 : l.length ≤ 1000000)
    (h : LcA tg elt (wipeP ρ vs) l e f) (h3 : .lst (l.map f) = c) : pLc it vs tg pYes elt ρ = .ok c := x_lcA h1 h2 h h3
theorem x_kw {m : List T → PR T} {n : Nat} {pm : List Nat} {fs : PEv → PR (List T)} {ρ : PEv} {ts us : List T} {t : T} (h : fs ρ = .ok ts) (h1 : (if ts.length = n then perm pm ts else []) = us) (hl : ts.length = n) (h2 : m us = .ok t) : pKw m n pm fs ρ = .ok t := by
  rw [if_pos hl] at h1; exact kw_ok h hl (by rw [h1]; exact h2)
end TL
namespace TL
open PySem L2
theorem x_runP_ {k : Bool} {N n : Nat} {g : SE → SO} {ts : List T} {t : T} (hl : ts.length = n) (h : ∃ ρ0 ρ, ini N ts = ρ0 ∧ g ρ0 = .rt k t ρ) : runP k N n g ts = .ok t := by
  obtain ⟨ρ0, ρ, h0, h1⟩ := h
  exact x_runP hl h0 h1 (by cases k <;> rfl)
theorem x_runN_ {N n : Nat} {g : SE → SO} {ts : List T} (hl : ts.length = n) (h : ∃ ρ0 ρ, ini N ts = ρ0 ∧ g ρ0 = .nx ρ) : runP false N n g ts = .ok .non := by
  obtain ⟨ρ0, ρ, h0, h1⟩ := h
  exact x_runN hl h0 h1
end TL

set_option Elab.async false
set_option linter.all false
set_option maxRecDepth 100000
/-! TW: statements of mirrors, by what is wanted of their end. -/
namespace TL
open PySem L2
def W (r : SO) (Q : SO → Prop) : Prop := Q r
def QS (g : SE → SO) (Q : SO → Prop) : SO → Prop := fun r => match r with
  | .nx ρ => W (g ρ) Q
  | r => Q r
def QL (P : SE → Prop) (Q : SO → Prop) : SO → Prop := fun r => match r with
  | .nx ρ => P ρ
  | .ct ρ => P ρ
  | .bk ρ => Q (.nx ρ)
  | r => Q r
/-- the end of a def -/
def QP (k : Bool) (Φ : T → Prop) : SO → Prop := fun r => ∃ t, outP k r = .ok t ∧ Φ t
def QI (k : Bool) (Φ : T → T → Prop) : SO → Prop := fun r => ∃ t u, outI k r = .ok (t, u) ∧ Φ t u
section
variable {g g1 g2 body : SE → SO} {Q : SO → Prop} {ρ ρ1 ρ2 ρ3 ρ4 : SE} {t : SE → R Bool} {f f1 f2 f3 : SE → R T} {k k1 k2 k3 : Bool} {i j l : Nat} {b : Bool} {v v1 v2 v3 : T} {P : SE → Prop}
theorem w_seq (h : W (g1 ρ) (QS g2 Q)) : W (sSeq g1 g2 ρ) Q := by
  show Q ((g1 ρ).thn g2)
  have h : QS g2 Q (g1 ρ) := h
  cases q : g1 ρ with
  | nx ρ1 => rw [q] at h; exact h
  | rt k t ρ1 => rw [q] at h; exact h
  | bk ρ1 => rw [q] at h; exact h
  | ct ρ1 => rw [q] at h; exact h
  | ex n t => rw [q] at h; exact h
  | bad => rw [q] at h; exact h
theorem qs_nx (h : W (g2 ρ) Q) : QS g2 Q (.nx ρ) := h
theorem qs_frz (he : frz j ρ = ρ1) (h : W (g ρ1) Q) : QS (fun ρ => g (frz j ρ)) Q (.nx ρ) := by subst he; exact h
theorem qs_rt (h : Q (.rt k v ρ)) : QS g2 Q (.rt k v ρ) := h
theorem qs_bk (h : Q (.bk ρ)) : QS g2 Q (.bk ρ) := h
theorem qs_ct (h : Q (.ct ρ)) : QS g2 Q (.ct ρ) := h
theorem ql_nx (h : P ρ) : QL P Q (.nx ρ) := h
theorem ql_ct (h : P ρ) : QL P Q (.ct ρ) := h
theorem ql_bk (h : Q (.nx ρ)) : QL P Q (.bk ρ) := h
theorem ql_rt (h : Q (.rt k v ρ)) : QL P Q (.rt k v ρ) := h
theorem qp_rt {Φ : T → Prop} (h : Φ v) : QP k Φ (.rt k v ρ) := ⟨v, by cases k <;> rfl, h⟩
theorem qp_nx {Φ : T → Prop} (h : Φ .non) : QP false Φ (.nx ρ) := ⟨.non, rfl, h⟩
theorem qi_rt {Φ : T → T → Prop} {u : T} (h0 : ρ[0]? = some (.io u)) (h : Φ v u) : QI k Φ (.rt k v ρ) := ⟨v, u, by
  unfold outI; dsimp only; rw [h0]; cases k <;> rfl, h⟩
theorem qi_nx {Φ : T → T → Prop} {u : T} (h0 : ρ[0]? = some (.io u)) (h : Φ .non u) : QI false Φ (.nx ρ) := ⟨.non, u, by
  unfold outI; dsimp only; rw [h0]; rfl, h⟩
theorem w_nx (h : Q (.nx ρ)) : W (SO.nx ρ) Q := h
theorem w_bk (h : Q (.bk ρ)) : W (SO.bk ρ) Q := h
theorem w_ct (h : Q (.ct ρ)) : W (SO.ct ρ) Q := h
theorem w_if (h : t ρ = .ok b ρ1) (h1 : b = true → W (g1 ρ1) Q) (h2 : b = false → W (g2 ρ1) Q) : W (sIf t g1 g2 ρ) Q := by
  show Q ((t ρ).thn _)
  rw [h, R.thn_ok]
  cases b
  · exact h2 rfl
  · exact h1 rfl
theorem w_asg (h : f ρ = .ok v ρ1) (hi : i < ρ1.length) (he : ρ1.set i (sl k v) = ρ2) (q : Q (.nx ρ2)) : W (sAsg i k f ρ) Q := by
  show Q _; rw [x_asg h hi he]; exact q
theorem w_app {ts ts1 : List T} (h1 : ownAt ρ j = some (.lst ts)) (h2 : f ρ = .ok v ρ1) (h3 : ownAt ρ1 j = some (.lst ts1)) (h4 : ts1.length < 16777216) (he : likeAt ρ1 j (.lst (ts1 ++ [v])) = ρ2) (q : Q (.nx ρ2)) : W (sApp j f ρ) Q := by
  show Q _; rw [x_app h1 h2 h3 h4 he]; exact q
theorem w_set {fi : SE → R T} {u u1 u' i : T} (h1 : ownAt ρ j = some u) (h2 : f ρ = .ok v ρ1) (h3 : fi ρ1 = .ok i ρ2) (h4 : ownAt ρ2 j = some u1) (h5 : storeT u1 i v = some u') (he : likeAt ρ2 j u' = ρ3) (q : Q (.nx ρ3)) : W (sSet j f fi ρ) Q := by
  show Q _; rw [set_nx h1 h2 h3 h4 h5, he]; exact q
theorem w_par (h1 : f1 ρ = .ok v1 ρ1) (h2 : f2 ρ1 = .ok v2 ρ2) (h : i < ρ2.length ∧ j < ρ2.length ∧ i ≠ j) (he : (ρ2.set i (sl k1 v1)).set j (sl k2 v2) = ρ3) (q : Q (.nx ρ3)) : W (sPar i j k1 k2 f1 f2 ρ) Q := by
  show Q _; rw [x_par h1 h2 h he]; exact q
theorem w_par3 (h1 : f1 ρ = .ok v1 ρ1) (h2 : f2 ρ1 = .ok v2 ρ2) (h3 : f3 ρ2 = .ok v3 ρ3) (h : i < ρ3.length ∧ j < ρ3.length ∧ l < ρ3.length ∧ i ≠ j ∧ i ≠ l ∧ j ≠ l)
    (he : ((ρ3.set i (sl k1 v1)).set j (sl k2 v2)).set l (sl k3 v3) = ρ4) (q : Q (.nx ρ4)) : W (sPar3 i j l k1 k2 k3 f1 f2 f3 ρ) Q := by
  show Q _; rw [x_par3 h1 h2 h3 h he]; exact q
theorem w_tup {is : List Nat} (h : f ρ = .ok v ρ1) (h2 : gTE is v ρ1 = some ρ2) (q : Q (.nx ρ2)) : W (sTup is f ρ) Q := by
  show Q _; rw [x_tupS h h2]; exact q
theorem w_drop (h : f ρ = .ok v ρ1) (q : Q (.nx ρ1)) : W (sDrop f ρ) Q := by
  show Q _; rw [drop_nx h]; exact q
theorem w_ret (h : f ρ = .ok v ρ1) (q : Q (.rt k v ρ1)) : W (sRet k f ρ) Q := by
  show Q _; rw [ret_rt h]; exact q
theorem w_frz (he : frz j ρ = ρ1) (h : W (g ρ1) Q) : W (g (frz j ρ)) Q := by subst he; exact h
theorem w_asgW {d : Nat} (h : f ρ = .ok v ρ1) (hi : i < ρ1.length) (he : ρ1.set i (.gd (.new d) v) = ρ2) (q : Q (.nx ρ2)) : W (sAsgW i d f ρ) Q := by
  show Q _; rw [asgW_nx h hi, he]; exact q
/-- a walk's turns -/
def Turns (gg : T → SE → Option SE) (body : SE → SO) (ts : List T) (Q : SO → Prop) (P : Nat → SE → Prop) : Prop :=
  ∀ i t ρ, ts[i]? = some t → P i ρ → ∃ ρ1, gg t ρ = some ρ1 ∧ W (body ρ1) (QL (P (i + 1)) Q)
theorem forGo_w {gg : T → SE → Option SE} {Q : SO → Prop} : ∀ (ts us : List T) (n : Nat) (ρ : SE) (P : Nat → SE → Prop), us = ts.drop n → P n ρ → n ≤ ts.length → Turns gg body ts Q P → (∀ ρ, P ts.length ρ → Q (.nx ρ)) → Q (forGo gg body us ρ)
  | ts, [], n, ρ, P, hu, h, hn, st, he => by
    unfold forGo
    have : n = ts.length := by
      have := congrArg List.length hu
      rw [List.length_drop, List.length_nil] at this; omega
    subst this; exact he ρ h
  | ts, u :: us, n, ρ, P, hu, h, hn, st, he => by
    have hl : n < ts.length := by
      have := congrArg List.length hu
      rw [List.length_drop, List.length_cons] at this; omega
    rw [List.drop_eq_getElem_cons hl] at hu
    obtain ⟨e1, e2⟩ := List.cons.inj hu
    obtain ⟨ρ1, g1, w⟩ := st n u ρ (by rw [e1]; exact List.getElem?_eq_getElem hl) h
    have w : QL (P (n + 1)) Q (body ρ1) := w
    unfold forGo
    rw [g1]
    dsimp only
    cases q : body ρ1 with
    | nx ρ2 => rw [q] at w; exact forGo_w ts us (n + 1) ρ2 P e2 w (by omega) st he
    | ct ρ2 => rw [q] at w; exact forGo_w ts us (n + 1) ρ2 P e2 w (by omega) st he
    | bk ρ2 => rw [q] at w; exact w
    | rt k t ρ2 => rw [q] at w; exact w
    | ex n t => rw [q] at w; exact w
    | bad => rw [q] at w; exact w
theorem w_for {it : SE → R (List T)} {gg : T → SE → Option SE} {ts : List T} (h : it ρ = .ok ts ρ1) (hx : ∃ P : Nat → SE → Prop, P 0 ρ1 ∧ Turns gg body ts Q P ∧ ∀ ρ, P ts.length ρ → Q (.nx ρ)) : W (sForE it gg body ρ) Q := by
  obtain ⟨P, h0, st, he⟩ := hx
  show Q ((it ρ).thn _)
  rw [h, R.thn_ok]
  exact forGo_w ts ts 0 ρ1 P rfl h0 (Nat.zero_le _) st he
theorem whGo_w {Q : SO → Prop} : ∀ (m n : Nat) (ρ : SE) (P : Nat → SE → Prop), m < n → P m ρ → (∀ m ρ, P m ρ → (∃ ρ1, t ρ = .ok false ρ1 ∧ Q (.nx ρ1)) ∨ ∃ m', m = m' + 1 ∧ ∃ ρ1, t ρ = .ok true ρ1 ∧ W (body ρ1) (QL (P m') Q)) → Q (whGo t body n ρ)
  | m, 0, ρ, P, hm, _, _ => absurd hm (Nat.not_lt_zero m)
  | m, n + 1, ρ, P, hm, h, st => by
    unfold whGo
    rcases st m ρ h with ⟨ρ1, h1, h2⟩ | ⟨m', e, ρ1, h1, w⟩
    · rw [h1]; exact h2
    · rw [h1]
      have w : QL (P m') Q (body ρ1) := w
      show Q (match body ρ1 with | .nx ρ2 => whGo t body n ρ2 | .ct ρ2 => whGo t body n ρ2 | .bk ρ2 => .nx ρ2 | r => r)
      cases q : body ρ1 with
      | nx ρ2 => rw [q] at w; exact whGo_w m' n ρ2 P (by omega) w st
      | ct ρ2 => rw [q] at w; exact whGo_w m' n ρ2 P (by omega) w st
      | bk ρ2 => rw [q] at w; exact w
      | rt k t ρ2 => rw [q] at w; exact w
      | ex n t => rw [q] at w; exact w
      | bad => rw [q] at w; exact w
theorem w_wh (hx : ∃ (P : Nat → SE → Prop) (m : Nat), m < 100 ∧ P m ρ ∧ ∀ m ρ, P m ρ → (∃ ρ1, t ρ = .ok false ρ1 ∧ Q (.nx ρ1)) ∨ ∃ m', m = m' + 1 ∧ ∃ ρ1, t ρ = .ok true ρ1 ∧ W (body ρ1) (QL (P m') Q)) : W (sWh 100 t body ρ) Q := by
  obtain ⟨P, m, hm, h0, st⟩ := hx
  exact whGo_w m 100 ρ P hm h0 st
theorem runP_w {N n : Nat} {ts : List T} {Φ : T → Prop} (hl : ts.length = n) (h : ∃ ρ0, ini N ts = ρ0 ∧ W (g ρ0) (QP k Φ)) : ∃ t, runP k N n g ts = .ok t ∧ Φ t := by
  obtain ⟨ρ0, e, t, h1, h2⟩ := h
  exact ⟨t, by unfold runP; rw [if_pos hl, e]; exact h1, h2⟩
theorem runP_is {N n : Nat} {ts : List T} {t : T} (hl : ts.length = n) (h : ∃ ρ0, ini N ts = ρ0 ∧ W (g ρ0) (QP k (Eq t))) : runP k N n g ts = .ok t := by
  obtain ⟨u, h1, h2⟩ := runP_w hl h
  rw [h1, h2]
theorem runI_w {N n : Nat} {t0 : T} {ts : List T} {Φ : T → T → Prop} (hl : ts.length + 1 = n) (h : ∃ ρ0, iniI N t0 ts = ρ0 ∧ W (g ρ0) (QI k Φ)) : ∃ t u, runI k N n g t0 ts = .ok (t, u) ∧ Φ t u := by
  obtain ⟨ρ0, e, t, u, h1, h2⟩ := h
  exact ⟨t, u, by unfold runI; rw [if_pos hl, e]; exact h1, h2⟩
end

theorem eNil_ok {ρ : SE} : eNil ρ = .ok [] ρ := rfl
theorem y_and {f g : SE → R Bool} {ρ ρ1 ρ2 : SE} {a b c : Bool} (h : f ρ = .ok a ρ1) (h2 : a = true → g ρ1 = .ok b ρ2) (h4 : a = false → ρ1 = ρ2) (h3 : (a && b) = c) : eAnd f g ρ = .ok c ρ2 := by
  cases a
  · rw [← h4 rfl, ← h3]; exact eAnd_f h
  · rw [← h3]; exact eAnd_t h (h2 rfl)
theorem y_if {α : Type} {t : SE → R Bool} {f g : SE → R α} {ρ ρ1 : SE} {b : Bool} {r : R α} (h : t ρ = .ok b ρ1) (h1 : b = true → f ρ1 = r) (h2 : b = false → g ρ1 = r) : eIf t f g ρ = r := by
  unfold eIf; rw [h, R.bind_ok]; cases b
  · exact h2 rfl
  · exact h1 rfl
theorem y_ofB {f : SE → R Bool} {ρ ρ1 : SE} {b : Bool} {c : T} (h : f ρ = .ok b ρ1) (h2 : .bl b = c) : eOfB f ρ = .ok c ρ1 := by unfold eOfB; rw [h, R.bind_ok, h2]
theorem y_sl {f : SE → R T} {l h : SE → R (Option Int)} {ρ ρ1 ρ2 ρ3 : SE} {ts : List T} {a b : Option Int} {c : T} (h1 : f ρ = .ok (.lst ts) ρ1) (h2 : l ρ1 = .ok a ρ2) (h3 : h ρ2 = .ok b ρ3) (h4 : .lst (cutT ts a b) = c) : eSl f l h ρ = .ok c ρ3 := by
  unfold eSl; rw [h1, R.bind_ok, h2, R.bind_ok, h3, R.bind_ok, ← h4]; rfl
theorem y_part {f : SE → R T} {ρ ρ1 : SE} {i : Int} (h : f ρ = .ok (.int i) ρ1) : ePart f ρ = .ok (some i) ρ1 := by unfold ePart; rw [h]; rfl
theorem y_noPart {ρ : SE} : eNoPart ρ = .ok none ρ := rfl
theorem y_u {g : T → Option T} {f : SE → R T} {ρ ρ1 : SE} {t u : T} (h1 : f ρ = .ok t ρ1) (h2 : g t = some u) : eU g f ρ = .ok u ρ1 := by unfold eU; rw [h1, R.bind_ok, h2]; rfl
theorem y_rng1 {fs : SE → R (List T)} {ρ ρ1 : SE} {k : Int} {n : Nat} (h : fs ρ = .ok [.int k] ρ1) (hk : k = (n : Nat)) (hn : n ≤ 1000000) : eRng1 fs ρ = .ok ((List.range n).map fun (i : Nat) => T.int (i : Int)) ρ1 := by
  subst hk
  unfold eRng1; rw [h, R.bind_ok]
  dsimp only
  rw [if_pos (by omega), Int.toNat_natCast, rng0]
theorem flat_i (i : Int) : (T.int i).isFlat = true := rfl
theorem flat_n : T.non.isFlat = true := rfl
theorem flat_b (b : Bool) : (T.bl b).isFlat = true := rfl
theorem flat_s (b : Str) : (T.str b).isFlat = true := rfl
/-- a comprehension that changes something, all items kept -/
theorem w_asgLc {i : Nat} {k : Bool} {it : SE → R (List T)} {vs : List Nat} {tg : T → SE → Option SE} {elt : SE → R T} {ρ ρ1 : SE} {ts : List T} {Q : SO → Prop} (h : it ρ = .ok ts ρ1) (hs : small ts = true)
    (hx : ∃ (P : Nat → SE → Prop) (E : T → T → Prop), P 0 (wipeE ρ1 vs) ∧ (∀ i t ρ, ts[i]? = some t → P i ρ → ∃ ρ1, tg t ρ = some ρ1 ∧ ∃ y ρ3, elt ρ1 = .ok y ρ3 ∧ E t y ∧ P (i + 1) (wipeE ρ3 vs)) ∧
      ∀ rs ρ', P ts.length ρ' → rs.length = ts.length → (∀ (i : Nat) t y, ts[i]? = some t → rs[i]? = some y → E t y) → i < ρ'.length ∧ Q (.nx (ρ'.set i (sl k (.lst rs))))) : W (sAsg i k (eLc it vs tg (fun ρ => .ok true ρ) elt) ρ) Q := by
  obtain ⟨P, E, h0, st, he⟩ := hx
  obtain ⟨rs, ρ', e, q, hl, hE⟩ := leGo_inv (vs := vs) (tg := tg) (tst := fun ρ => .ok true ρ) (elt := elt) P E ts 0 ρ1 h0 fun i t ρ ht hp => by
    rw [Nat.zero_add] at hp ⊢
    obtain ⟨ρ1, g1, y, ρ3, g2, g3, g4⟩ := st i t ρ ht hp
    exact ⟨ρ1, g1, ρ1, rfl, y, ρ3, g2, g3, g4⟩
  rw [Nat.zero_add] at q
  obtain ⟨hi, hq⟩ := he rs ρ' q hl hE
  refine w_asg (ρ1 := ρ') (v := .lst rs) ?_ hi rfl hq
  unfold eLc
  rw [h, R.bind_ok, if_pos hs, e]; rfl
theorem natlit {n : Nat} {k : Int} (h : Int.ofNat n = k) : k = (n : Nat) := h.symm
end TL

set_option Elab.async false
set_option linter.all false
set_option maxRecDepth 100000
/-! TM: rows, what was asked for last, distances (no program in sight). -/
namespace TL
open PySem L2
def optT : Option Nat → T
  | none => .non
  | some j => .int (j : Nat)
theorem optT_isN (d : Option Nat) : (optT d).isN = d.isNone := by cases d <;> rfl
theorem optT_flat (d : Option Nat) : (optT d).isFlat = true := by cases d <;> rfl
theorem optT_pl (d : Option Nat) : (optT d).pl = true := by cases d <;> (unfold optT T.pl; rfl)
theorem optT_dep (d : Option Nat) : (optT d).dep = 0 := by cases d <;> (unfold optT T.dep; rfl)
theorem optT_inj {d e : Option Nat} (h : optT d = optT e) : d = e := by
  cases d <;> cases e <;> first | rfl | (cases h; done) | skip
  simp only [optT] at h
  injection h with h
  congr 1; omega
theorem nil_map : ([] : List T) = ([] : List Int).map T.int := rfl
theorem lit_map (a : T) (l : List T) : a :: l = (a :: l).map fun t => t := (List.map_id' _).symm
theorem lc_of_nil {it : PEv → PR (List T)} {vs : List Nat} {tg : T → PEv → Option PEv} {tst : PEv → PR Bool} {elt : PEv → PR T} {ρ : PEv} (h : it ρ = .ok []) : pLc it vs tg tst elt ρ = .ok (.lst []) := by unfold pLc; rw [h]; rfl
theorem y_lc0 {i : Nat} {vs : List Nat} {tg : T → PEv → Option PEv} {tst : PEv → PR Bool} {elt : PEv → PR T} {ρ : PEv} {t : T} (h : ρ[i]? = some (some t)) (h2 : t = .lst []) : pLc (pItL (pV i)) vs tg tst elt ρ = .ok (.lst []) := lc_of_nil (by subst h2; unfold pItL; rw [v_ok h]; rfl)
theorem gNe_selfI {α : Type} (f : α → Int) (l : List α) : gNe (.lst (l.map fun a => T.int (f a))) (.lst (l.map fun a => T.int (f a))) = some false := by
  have e : (l.map fun a => T.int (f a)) = (l.map f).map T.int := by rw [List.map_map]; rfl
  rw [e, gNe_ints, decide_eq_true rfl]; rfl
theorem gEq_selfI {α : Type} (f : α → Int) (l : List α) : gEq (.lst (l.map fun a => T.int (f a))) (.lst (l.map fun a => T.int (f a))) = some true := by
  have e : (l.map fun a => T.int (f a)) = (l.map f).map T.int := by rw [List.map_map]; rfl
  rw [e, gEq_ints, decide_eq_true rfl]
theorem gCmp_no {p : Int → Int → Bool} {a b : Int} (h : p a b = false) : gCmp p (.int a) (.int b) = some false := by rw [gCmp_i, h]
theorem gCmp_yes {p : Int → Int → Bool} {a b : Int} (h : p a b = true) : gCmp p (.int a) (.int b) = some true := by rw [gCmp_i, h]
def oget (d : Option Nat) : Int := ((d.getD 0 : Nat) : Int)
theorem gCmp_oL {p : Int → Int → Bool} {d : Option Nat} {k : Int} (h : (optT d).isN = false) : gCmp p (optT d) (.int k) = some (p (oget d) k) := by
  cases d with
  | none => cases h
  | some j => rfl
theorem gCmp_oR {p : Int → Int → Bool} {d : Option Nat} {k : Int} (h : (optT d).isN = false) : gCmp p (.int k) (optT d) = some (p k (oget d)) := by
  cases d with
  | none => cases h
  | some j => rfl
theorem gCmp_oL' {p : Int → Int → Bool} {d : Option Nat} {k : Int} (h : (!(optT d).isN) = true) : gCmp p (optT d) (.int k) = some (p (oget d) k) := gCmp_oL (by simpa using h)
theorem gCmp_oR' {p : Int → Int → Bool} {d : Option Nat} {k : Int} (h : (!(optT d).isN) = true) : gCmp p (.int k) (optT d) = some (p k (oget d)) := gCmp_oR (by simpa using h)
abbrev optsT (n : Nat) (D : Nat → Option Nat) : T := .lst ((List.range n).map fun i => optT (D i))
theorem pl_opts (n : Nat) (D : Nat → Option Nat) : (optsT n D).pl = true := by unfold optsT T.pl; exact pls_map _ _ fun _ _ => optT_pl _
theorem dep_opts (n : Nat) (D : Nat → Option Nat) : (optsT n D).dep ≤ 1 := by
  unfold optsT T.dep
  have : T.deps ((List.range n).map fun i => optT (D i)) ≤ 0 := deps_le fun t ht => by obtain ⟨a, _, rfl⟩ := List.mem_map.mp ht; rw [optT_dep]; exact Nat.le_refl 0
  omega
theorem opts_inj {n : Nat} {D E : Nat → Option Nat} : optsT n D = optsT n E ↔ ∀ i, i < n → D i = E i := by
  unfold optsT
  constructor
  · intro h i hi
    injection h with h
    have := congrArg (fun l => l[i]?) h
    simp only [List.getElem?_map, List.getElem?_range hi, Option.map_some] at this
    exact optT_inj (Option.some.inj this)
  · intro h
    congr 1
    exact List.map_congr_left fun i hi => by rw [h i (List.mem_range.mp hi)]
theorem pl_i (i : Int) : (T.int i).pl = true := by unfold T.pl; rfl
theorem pl_n : T.non.pl = true := by unfold T.pl; rfl
theorem dep_i (i : Int) : (T.int i).dep ≤ 60 := by unfold T.dep; omega
theorem dep_n : T.non.dep ≤ 60 := by unfold T.dep; omega
theorem dep_o (d : Option Nat) : (optT d).dep ≤ 60 := by rw [optT_dep]; omega
theorem pl_int2 (l : List Int) : (T.lst (l.map T.int)).pl = true := pl_ints l
theorem dep_ints2 (l : List Int) : (T.lst (l.map T.int)).dep ≤ 60 := Nat.le_trans (dep_ints l) (by decide)
open Classical in
theorem gEq_mt {α : Type} {f : α → T} {l : List α} (h : ∀ a, (f a).pl = true) (h2 : ∀ a, (f a).dep ≤ 60) : gEq (.lst (l.map f)) (.lst []) = some l.isEmpty := by
  rw [gEq_pl (by unfold T.pl; exact pls_map _ _ fun a _ => h a) (by unfold T.pl T.pls; rfl)]
  · cases l with
    | nil => congr 1; exact decide_eq_true rfl
    | cons a l => congr 1; exact decide_eq_false fun z => by injection z with z; cases z
  · unfold T.dep
    have := deps_le (n := 60) (l := l.map f) fun t ht => by obtain ⟨a, _, rfl⟩ := List.mem_map.mp ht; exact h2 a
    omega
  · unfold T.dep T.deps; omega
theorem gNe_mt {α : Type} {f : α → T} {l : List α} (h : ∀ a, (f a).pl = true) (h2 : ∀ a, (f a).dep ≤ 60) : gNe (.lst (l.map f)) (.lst []) = some (!l.isEmpty) := by
  unfold gNe; rw [gEq_mt h h2]; rfl
theorem gDix0 {α : Type} {f : α → T} {l : List α} (h : (!l.isEmpty) = true) : gDix (.lst (l.map f)) (.int 0) = some ((l.head?.map f).getD .non) := by
  cases l with
  | nil => cases h
  | cons a l => exact gDix_map f (i := 0) rfl rfl
/-! ### index -/
theorem gIndex_int {l : List Int} {x : Int} (h : x ∈ l) : gIndex (l.map T.int) [.int x] = some (.int (l.idxOf x : Nat)) := by
  have hf : (l.map T.int).all T.isFlat = true := all_flat_int l
  have hv : (l.map T.int).map T.fv = l.map L2.V.int := by rw [List.map_map]; rfl
  have hi : l.idxOf x < l.length := List.idxOf_lt_length_of_mem h
  have e : idxT (.int x) (l.map L2.V.int) = some (l.idxOf x) := by
    refine idxT_is (v := .int x) ?_ ?_ ?_
    · rw [List.getElem?_map, List.getElem?_eq_getElem hi, List.getElem_idxOf hi]; rfl
    · show (x == x) = true; simp
    · intro m z hm hz
      rw [List.getElem?_map] at hz
      have hl : m < l.length := by omega
      rw [List.getElem?_eq_getElem hl] at hz
      cases hz
      show (l[m] == x) = false
      have := List.not_of_lt_findIdx (p := (· == x)) (xs := l) hm
      exact this
  unfold gIndex
  rw [hf, hv]
  dsimp only
  rw [if_pos (by rfl)]
  show Option.map (fun j => T.int j) (idxT (.int x) (l.map L2.V.int) >>= fun a => pure (a : Int)) = _
  rw [e]; rfl
/-! ### what was asked for last -/
/-- behind so many asks: the things, the last asked one first -/
def ordR (R : List Int) : Nat → List Int
  | 0 => []
  | i + 1 => R.getD i 0 :: (ordR R i).filter fun y => !decide (y = R.getD i 0)
def distR (R : List Int) (i : Nat) : Option Nat := if R.getD i 0 ∈ ordR R i then some ((ordR R i).idxOf (R.getD i 0)) else none
def cntR (R : List Int) (i : Nat) : Nat := (ordR R i).length
theorem front_nodup {l : List Int} {x : Int} (h : l.Nodup) : (x :: l.filter fun y => !decide (y = x)).Nodup := by
  rw [List.nodup_cons]
  refine ⟨fun z => ?_, h.filter _⟩
  have := (List.mem_filter.mp z).2
  simp at this
theorem mem_front {l : List Int} {x y : Int} : y ∈ (x :: l.filter fun y => !decide (y = x)) ↔ y = x ∨ y ∈ l := by
  rw [List.mem_cons, List.mem_filter]
  by_cases h : y = x
  · simp [h]
  · simp [h]
theorem filter_ne_length {l : List Int} {x : Int} (h : l.Nodup) : (l.filter fun y => !decide (y = x)).length = if x ∈ l then l.length - 1 else l.length := by
  induction l with
  | nil => simp
  | cons z l ih =>
    rw [List.nodup_cons] at h
    by_cases hz : z = x
    · subst hz
      rw [List.filter_cons_of_neg (by simp), if_pos List.mem_cons_self, ih h.2, if_neg h.1]; rfl
    · rw [List.filter_cons_of_pos (by simp [hz]), List.length_cons, ih h.2, List.length_cons]
      have e : (x ∈ z :: l) ↔ x ∈ l := by simp [Ne.symm hz]
      by_cases hx : x ∈ l
      · rw [if_pos hx, if_pos (e.mpr hx)]
        have : 0 < l.length := List.length_pos_of_mem hx
        omega
      · rw [if_neg hx, if_neg fun y => hx (e.mp y)]
theorem front_length {l : List Int} {x : Int} (h : l.Nodup) : (x :: l.filter fun y => !decide (y = x)).length = if x ∈ l then l.length else l.length + 1 := by
  rw [List.length_cons, filter_ne_length h]
  by_cases hx : x ∈ l
  · rw [if_pos hx, if_pos hx]
    have : 0 < l.length := List.length_pos_of_mem hx
    omega
  · rw [if_neg hx, if_neg hx]
theorem ord_nodup (R : List Int) : ∀ i, (ordR R i).Nodup
  | 0 => List.nodup_nil
  | i + 1 => front_nodup (ord_nodup R i)
theorem mem_ord {R : List Int} {x : Int} : ∀ {i}, x ∈ ordR R i ↔ ∃ j, j < i ∧ R.getD j 0 = x
  | 0 => by simp [ordR]
  | i + 1 => by
    unfold ordR
    rw [mem_front, mem_ord]
    constructor
    · rintro (h | ⟨j, h1, h2⟩)
      · exact ⟨i, by omega, h.symm⟩
      · exact ⟨j, by omega, h2⟩
    · rintro ⟨j, h1, h2⟩
      by_cases h : j = i
      · subst h; exact .inl h2.symm
      · exact .inr ⟨j, by omega, h2⟩
theorem dist_none {R : List Int} {i : Nat} : distR R i = none ↔ R.getD i 0 ∉ ordR R i := by
  unfold distR
  split <;> simp_all
theorem dist_lt {R : List Int} {i d : Nat} (h : distR R i = some d) : d < cntR R i := by
  unfold distR at h
  split at h
  · rename_i hm
    cases h
    exact List.idxOf_lt_length_of_mem hm
  · cases h
theorem cnt_succ (R : List Int) (i : Nat) : cntR R (i + 1) = cntR R i + if distR R i = none then 1 else 0 := by
  have e : cntR R (i + 1) = _ := front_length (l := ordR R i) (x := R.getD i 0) (ord_nodup R i)
  rw [e]
  by_cases h : R.getD i 0 ∈ ordR R i
  · rw [if_pos h, if_neg fun z => dist_none.mp z h]; rfl
  · rw [if_neg h, if_pos (dist_none.mpr h)]; rfl
theorem cnt_mono (R : List Int) {i j : Nat} (h : i ≤ j) : cntR R i ≤ cntR R j := by
  induction h with
  | refl => exact Nat.le_refl _
  | step _ ih => rw [cnt_succ]; omega
theorem cnt_le (R : List Int) : ∀ i, cntR R i ≤ i
  | 0 => Nat.le_refl _
  | i + 1 => by have := cnt_le R i; rw [cnt_succ]; split <;> omega
/-! ### a row out of distances -/
def nowF (F : Nat → Option Nat) : Nat → List Int
  | 0 => []
  | i + 1 =>
    let x : Int := match F i with
      | none => ((nowF F i).length : Nat)
      | some f => (nowF F i).getD f 0
    x :: (nowF F i).filter fun y => !decide (y = x)
def thF (F : Nat → Option Nat) (i : Nat) : Int := match F i with
  | none => ((nowF F i).length : Nat)
  | some f => (nowF F i).getD f 0
def mnyF (F : Nat → Option Nat) : Nat → Nat
  | 0 => 0
  | i + 1 => mnyF F i + if F i = none then 1 else 0
structure ValidF (F : Nat → Option Nat) (n : Nat) : Prop where
  lt : ∀ i f, i < n → F i = some f → f < mnyF F i
theorem mnyF_succ (F : Nat → Option Nat) (i : Nat) : mnyF F (i + 1) = mnyF F i + if F i = none then 1 else 0 := rfl
theorem nowF_succ (F : Nat → Option Nat) (i : Nat) : nowF F (i + 1) = thF F i :: (nowF F i).filter fun y => !decide (y = thF F i) := rfl
theorem nowF_ok {F : Nat → Option Nat} {n : Nat} (v : ValidF F n) : ∀ i, i ≤ n → (nowF F i).Nodup ∧ (nowF F i).length = mnyF F i ∧ ∀ x ∈ nowF F i, 0 ≤ x ∧ x < (mnyF F i : Nat)
  | 0, _ => ⟨List.nodup_nil, rfl, fun x hx => by cases hx⟩
  | i + 1, hi => by
    obtain ⟨h1, h2, h3⟩ := nowF_ok v i (by omega)
    rw [nowF_succ]
    cases e : F i with
    | none =>
      have et : thF F i = ((nowF F i).length : Nat) := by unfold thF; rw [e]
      have hn : thF F i ∉ nowF F i := fun z => by have := (h3 _ z).2; rw [et, h2] at this; omega
      have em : mnyF F (i + 1) = mnyF F i + 1 := by rw [mnyF_succ, if_pos e]
      refine ⟨front_nodup h1, by rw [front_length h1, if_neg hn, h2, em], fun x hx => ?_⟩
      rcases mem_front.mp hx with hx | hx
      · rw [hx, et, h2, em]; omega
      · have := h3 x hx; rw [em]; omega
    | some f =>
      have hf := v.lt i f (by omega) e
      have et : thF F i = (nowF F i).getD f 0 := by unfold thF; rw [e]
      have hm : thF F i ∈ nowF F i := by
        rw [et, List.getD_eq_getElem?_getD, List.getElem?_eq_getElem (by omega)]
        exact List.getElem_mem _
      have em : mnyF F (i + 1) = mnyF F i := by rw [mnyF_succ, e]; rfl
      refine ⟨front_nodup h1, by rw [front_length h1, if_pos hm, h2, em], fun x hx => ?_⟩
      rw [em]
      rcases mem_front.mp hx with hx | hx
      · rw [hx]; exact h3 _ hm
      · exact h3 x hx
def rowF (F : Nat → Option Nat) (n : Nat) : List Int := (List.range n).map (thF F)
theorem rowF_get {F : Nat → Option Nat} {n i : Nat} (h : i < n) : (rowF F n).getD i 0 = thF F i := by
  unfold rowF
  rw [List.getD_eq_getElem?_getD, List.getElem?_map, List.getElem?_range h]; rfl
theorem rowF_ord {F : Nat → Option Nat} {n : Nat} : ∀ i, i ≤ n → ordR (rowF F n) i = nowF F i
  | 0, _ => rfl
  | i + 1, h => by
    unfold ordR
    rw [rowF_get (by omega), rowF_ord i (by omega), nowF_succ]
theorem rowF_dist {F : Nat → Option Nat} {n : Nat} (v : ValidF F n) {i : Nat} (h : i < n) : distR (rowF F n) i = F i := by
  obtain ⟨h1, h2, h3⟩ := nowF_ok v i (by omega)
  unfold distR
  rw [rowF_get h, rowF_ord i (by omega)]
  cases e : F i with
  | none =>
    have et : thF F i = ((nowF F i).length : Nat) := by unfold thF; rw [e]
    have hn : thF F i ∉ nowF F i := fun z => by have := (h3 _ z).2; rw [et, h2] at this; omega
    rw [if_neg hn]
  | some f =>
    have hf := v.lt i f h e
    have et : thF F i = (nowF F i)[f]'(by omega) := by
      unfold thF; rw [e]
      dsimp only
      rw [List.getD_eq_getElem?_getD, List.getElem?_eq_getElem (by omega)]; rfl
    have hm : thF F i ∈ nowF F i := by rw [et]; exact List.getElem_mem _
    rw [if_pos hm, et, h1.idxOf_getElem]
theorem rowF_cnt {F : Nat → Option Nat} {n : Nat} (v : ValidF F n) : cntR (rowF F n) n = mnyF F n := by
  unfold cntR
  rw [rowF_ord n (Nat.le_refl _)]
  exact (nowF_ok v n (Nat.le_refl _)).2.1
theorem mnyF_mono {F : Nat → Option Nat} {i j : Nat} (h : i ≤ j) : mnyF F i ≤ mnyF F j := by
  induction h with
  | refl => exact Nat.le_refl _
  | step _ ih => rw [mnyF_succ]; split <;> omega
theorem rowF_el {F : Nat → Option Nat} {n : Nat} (v : ValidF F n) : ∀ x ∈ rowF F n, 0 ≤ x ∧ x < (mnyF F n : Nat) := fun x hx => by
  obtain ⟨i, hi, rfl⟩ := List.mem_map.mp hx
  have hi := List.mem_range.mp hi
  obtain ⟨h1, h2, h3⟩ := nowF_ok v (i + 1) (by omega)
  have h4 := h3 (thF F i) (by rw [nowF_succ]; exact List.mem_cons_self)
  have := mnyF_mono (F := F) (i := i + 1) (j := n) (by omega)
  omega
/-! ### unlike things -/
theorem setL_cnt (R : List Int) : (setL R).length = cntR R R.length := by
  have p := nodup_perm (lt_nodup (setL_sorted R)) (ord_nodup R R.length) fun x => by
    rw [mem_setL, mem_ord]
    constructor
    · intro h
      obtain ⟨j, hj, e⟩ := List.getElem_of_mem h
      exact ⟨j, hj, by rw [List.getD_eq_getElem?_getD, List.getElem?_eq_getElem hj, e]; rfl⟩
    · rintro ⟨j, hj, rfl⟩
      rw [List.getD_eq_getElem?_getD, List.getElem?_eq_getElem hj]
      exact List.getElem_mem _
  exact p.length_eq
end TL

set_option Elab.async false
set_option linter.all false
set_option maxRecDepth 100000
/-! TRR: repr of rows. -/
namespace TL
open PySem L2 PySem.PyData
theorem strOk_app (a b : Str) : strOk (a ++ b) = (strOk a && strOk b) := by
  unfold strOk
  show (a.cps ++ b.cps).all _ = _
  rw [Array.all_append]
theorem strLen_app (a b : Str) : (a ++ b).length = a.length + b.length := by
  show (a.cps ++ b.cps).size = _
  rw [Array.size_append]; rfl
theorem textFrom_ok : ∀ (ts : List Str) (k : Nat) (acc : Str), (∀ t ∈ ts, t.length ≤ 10 ∧ strOk t = true) → strOk acc = true → (textFrom k acc ts).length ≤ acc.length + 12 * ts.length ∧ strOk (textFrom k acc ts) = true
  | [], k, acc, _, h => ⟨by show acc.length ≤ _; omega, h⟩
  | t :: r, k, acc, ht, h => by
    obtain ⟨h1, h2⟩ := ht t List.mem_cons_self
    have ec : strOk (if k > 0 then ", " else "" : String) = true := by
      split
      · decide +kernel
      · decide +kernel
    have el : Str.length (if k > 0 then ", " else "" : String) ≤ 2 := by
      split
      · decide +kernel
      · decide +kernel
    obtain ⟨h3, h4⟩ := textFrom_ok r (k + 1) (acc ++ (if k > 0 then ", " else "" : String) ++ t) (fun u hu => ht u (List.mem_cons_of_mem _ hu)) (by rw [strOk_app, strOk_app, h, ec, h2]; rfl)
    rw [strLen_app, strLen_app] at h3
    refine ⟨?_, h4⟩
    show (textFrom (k + 1) (acc ++ (if k > 0 then ", " else "" : String) ++ t) r).length ≤ _
    rw [List.length_cons]
    omega
theorem num26 : ∀ n : Nat, n < 26 → (PyData.shown (.int (n : Int))).length ≤ 10 ∧ strOk (PyData.shown (.int (n : Int))) = true := by decide +kernel
theorem dataTs_ints : ∀ l : List Int, dataTs (l.map T.int) = some (l.map PyData.int)
  | [] => by unfold dataTs; rfl
  | x :: l => by
    rw [List.map_cons]; unfold dataTs
    rw [dataTs_ints l]
    have : dataT (.int x) = some (.int x) := by unfold dataT; rfl
    rw [this]; rfl
open Classical in
theorem repr_row {R : List Int} (hl : R.length ≤ 1000) (he : ∀ x ∈ R, 0 ≤ x ∧ x < 26) : ∃ K, gRepr [.lst (R.map T.int)] = some (.str K) ∧ gEq (.str K) (.str K) = some true := by
  have hd : dataT (.lst (R.map T.int)) = some (.list (R.map PyData.int)) := by unfold dataT; rw [dataTs_ints]; rfl
  have hall : ∀ t ∈ PyData.shownAll (R.map PyData.int), t.length ≤ 10 ∧ strOk t = true := by
    have : ∀ l : List Int, (∀ x ∈ l, 0 ≤ x ∧ x < 26) → ∀ t ∈ PyData.shownAll (l.map PyData.int), t.length ≤ 10 ∧ strOk t = true := by
      intro l
      induction l with
      | nil => intro _ t ht; rw [List.map_nil] at ht; unfold PyData.shownAll at ht; cases ht
      | cons x l ih =>
        intro h t ht
        rw [List.map_cons] at ht; unfold PyData.shownAll at ht
        rcases List.mem_cons.mp ht with ht | ht
        · subst ht
          obtain ⟨a, b⟩ := h x List.mem_cons_self
          obtain ⟨n, rfl⟩ := Int.eq_ofNat_of_zero_le a
          exact num26 n (by omega)
        · exact ih (fun y hy => h y (List.mem_cons_of_mem _ hy)) t ht
    exact this R he
  have hlen : (PyData.shownAll (R.map PyData.int)).length = R.length := by
    have : ∀ l : List Int, (PyData.shownAll (l.map PyData.int)).length = l.length := by
      intro l
      induction l with
      | nil => rw [List.map_nil]; unfold PyData.shownAll; rfl
      | cons x l ih => rw [List.map_cons]; unfold PyData.shownAll; rw [List.length_cons, ih]; rfl
    exact this R
  obtain ⟨t1, t2⟩ := textFrom_ok (PyData.shownAll (R.map PyData.int)) 0 "[" hall (by decide +kernel)
  have hs : PyData.shown (.list (R.map PyData.int)) = textFrom 0 "[" (PyData.shownAll (R.map PyData.int)) ++ ("]" : String) := by
    unfold PyData.shown; rfl
  have l1 : Str.length ("[" : String) = 1 := by decide +kernel
  have l2 : Str.length ("]" : String) = 1 := by decide +kernel
  have hsl : (PyData.shown (.list (R.map PyData.int))).length ≤ 20000 := by
    rw [hs, strLen_app, l2]; rw [hlen, l1] at t1; omega
  have hso : strOk (PyData.shown (.list (R.map PyData.int))) = true := by
    rw [hs, strOk_app, t2]; decide +kernel
  have h1 : PyData.showable (.list (R.map PyData.int)) = true := by
    unfold PyData.showable
    have : ∀ l : List Int, (∀ x ∈ l, 0 ≤ x ∧ x < 26) → PyData.showableAll (l.map PyData.int) = true := by
      intro l
      induction l with
      | nil => intro _; rw [List.map_nil]; unfold PyData.showableAll; rfl
      | cons x l ih =>
        intro h
        rw [List.map_cons]; unfold PyData.showableAll
        rw [ih fun y hy => h y (List.mem_cons_of_mem _ hy)]
        obtain ⟨a, b⟩ := h x List.mem_cons_self
        obtain ⟨n, rfl⟩ := Int.eq_ofNat_of_zero_le a
        have hn : ∀ n : Nat, n < 26 → PyData.showable (.int (n : Int)) = true := by decide +kernel
        rw [hn n (by omega)]; rfl
    exact this R he
  have h2 : PyData.hasDict (.list (R.map PyData.int)) = false := by
    unfold PyData.hasDict
    have : ∀ l : List Int, PyData.hasDictAll (l.map PyData.int) = false := by
      intro l
      induction l with
      | nil => rw [List.map_nil]; unfold PyData.hasDictAll; rfl
      | cons x l ih => rw [List.map_cons]; unfold PyData.hasDictAll; rw [ih]; unfold PyData.hasDict; rfl
    exact this R
  have h3 : (PyData.list (R.map PyData.int)).depth ≤ 100 := by
    obtain ⟨d, e, _, q⟩ := T.pl_d _ (pl_ints R)
    have e2 : T.d (.lst (R.map T.int)) = some (.list (R.map PyData.int)) := by unfold T.d; rw [ds_ints]; rfl
    rw [e2] at e; cases e
    have := dep_ints R
    omega
  refine ⟨PyData.shown (.list (R.map PyData.int)), ?_, ?_⟩
  · unfold gRepr
    dsimp only
    rw [hd]
    dsimp only
    rw [if_pos]
    unfold okD
    rw [h1, h2, decide_eq_true h3, decide_eq_true (by rw [sizeLine_eq]; omega)]; rfl
  · rw [gEq_pl (by unfold T.pl; exact hso) (by unfold T.pl; exact hso) (by unfold T.dep; omega) (by unfold T.dep; omega)]
    congr 1; exact decide_eq_true rfl
end TL

set_option Elab.async false
set_option linter.all false
set_option maxRecDepth 100000
namespace K27
open PySem PySem.Spec L2 TL
abbrev PP : Program := PySem.Challenge.pw_keptathand_k27_whole_logs_and_guesses
def topS (i : Nat) : Stmt := PySem.Challenge.pw_keptathand_k27_whole_logs_and_guesses.main.body.getD i (.Pass ⟨0, 0, 0, 0⟩)
structure Gs (K : PySem.W.Frag) (mg : Str → Option Value) : Prop where
  d__law_hash : HasDef K mg "_law_hash" (topS 66) ["seed", "index"]
  d__law_random : HasDef K mg "_law_random" (topS 67) ["generator", "bound"]
  d__law_drawn_order : HasDef K mg "_law_drawn_order" (topS 71) ["generator", "told_ones"]
  d__law_pick : HasDef K mg "_law_pick" (topS 70) ["generator", "told_ones"]
  d__law_drawn_row : HasDef K mg "_law_drawn_row" (topS 72) ["generator", "most"]
  d__law_cell : HasDef K mg "_law_cell" (topS 68) ["script", "index"]
  d__law_generator : HasDef K mg "_law_generator" (topS 69) ["script", "index"]
  d_is_whole : HasDef K mg "is_whole" (topS 12) ["value"]
  d_is_count : HasDef K mg "is_count" (topS 13) ["value"]
  d_is_below : HasDef K mg "is_below" (topS 14) ["value", "bound"]
  d_is_thing : HasDef K mg "is_thing" (topS 15) ["value"]
  d_is_row : HasDef K mg "is_row" (topS 16) ["value"]
  d_check_row : HasDef K mg "check_row" (topS 19) ["row"]
  d_is_places : HasDef K mg "is_places" (topS 17) ["value"]
  d_check_shelves : HasDef K mg "check_shelves" (topS 62) ["shelves", "each"]
  d_distances_of : HasDef K mg "distances_of" (topS 25) ["row"]
  d_shelf_hits : HasDef K mg "shelf_hits" (topS 63) ["row", "shelves", "each"]
  d_blames : HasDef K mg "blames" (topS 64) ["row", "shelves", "each"]
  d_is_log : HasDef K mg "is_log" (topS 45) ["sizes", "value"]
  d_check_log : HasDef K mg "check_log" (topS 46) ["sizes", "log"]
  d_are_sizes : HasDef K mg "are_sizes" (topS 43) ["value"]
  d_check_sizes : HasDef K mg "check_sizes" (topS 44) ["sizes"]
  d_least_far : HasDef K mg "least_far" (topS 49) ["sizes", "mark"]
  d_told_distances : HasDef K mg "told_distances" (topS 50) ["sizes", "log", "most"]
  d_fewest_things : HasDef K mg "fewest_things" (topS 54) ["sizes", "log"]
  d_mark_of : HasDef K mg "mark_of" (topS 47) ["sizes", "far"]
  d_has_log : HasDef K mg "has_log" (topS 53) ["row", "sizes", "log"]
  d_hits_by : HasDef K mg "hits_by" (topS 55) ["log", "number"]
  d_log_hits : HasDef K mg "log_hits" (topS 56) ["sizes", "log", "number"]
  d_log_of : HasDef K mg "log_of" (topS 48) ["row", "sizes"]
  d_are_pins : HasDef K mg "are_pins" (topS 58) ["places", "value"]
  d_check_pins : HasDef K mg "check_pins" (topS 59) ["places", "pins"]
  d_check_places : HasDef K mg "check_places" (topS 20) ["places"]
  d_pinned_misses : HasDef K mg "pinned_misses" (topS 60) ["row", "places", "pins"]
  d_pinned_fetches : HasDef K mg "pinned_fetches" (topS 61) ["row", "places", "pins"]
  d_are_asks_of : HasDef K mg "are_asks_of" (topS 29) ["row", "value"]
  d_check_seen : HasDef K mg "check_seen" (topS 30) ["row", "hits", "fetched"]
  d_ends_of : HasDef K mg "ends_of" (topS 32) ["row", "hits", "fetched"]
  d_farthest_hit : HasDef K mg "farthest_hit" (topS 33) ["row", "hits"]
  d_firsts_among : HasDef K mg "firsts_among" (topS 31) ["row", "hits"]
  d_nearest_fetch : HasDef K mg "nearest_fetch" (topS 34) ["row", "fetched"]
  d_places_or_asks : HasDef K mg "places_or_asks" (topS 35) ["row", "hits", "fetched"]
  d_fits_seen : HasDef K mg "fits_seen" (topS 36) ["row", "hits", "fetched", "places"]
  d_places_seen : HasDef K mg "places_seen" (topS 37) ["row", "hits", "fetched"]
  d_check_most : HasDef K mg "check_most" (topS 51) ["most"]
  d_row_of : HasDef K mg "row_of" (topS 41) ["told"]
  d_row_or_ask : HasDef K mg "row_or_ask" (topS 52) ["sizes", "log", "most"]
  d_things_of : HasDef K mg "things_of" (topS 22) ["row"]
  d_things : HasDef K mg "things" (topS 23) ["row"]
  d_telling_ask : HasDef K mg "telling_ask" (topS 38) ["row", "places"]
  d_told_apart : HasDef K mg "told_apart" (topS 39) ["row"]
  d_are_weights : HasDef K mg "are_weights" (topS 18) ["value"]
  d_check_weights : HasDef K mg "check_weights" (topS 21) ["weights"]
  d_unused_curve : HasDef K mg "unused_curve" (topS 27) ["row", "weights"]
  d_unused_hits : HasDef K mg "unused_hits" (topS 26) ["row", "places"]
  d_law : HasDef K mg "law" (topS 73) ["script"]
  z_bool : mg "bool" = none
  z_enumerate : mg "enumerate" = none
  z_int : mg "int" = none
  z_isinstance : mg "isinstance" = none
  z_len : mg "len" = none
  z_list : mg "list" = none
  z_max : mg "max" = none
  z_min : mg "min" = none
  z_range : mg "range" = none
  z_repr : mg "repr" = none
  z_set : mg "set" = none
  z_sorted : mg "sorted" = none
  z_sum : mg "sum" = none
  n_LONGEST : ∃ t, mg "LONGEST" = some (.int 60 t)
  n_MOST_THINGS : ∃ t, mg "MOST_THINGS" = some (.int 26 t)
  n_MOST_WEIGHT : ∃ t, mg "MOST_WEIGHT" = some (.int 1000 t)
variable {w : World} {K : PySem.W.Frag} {mg : Str → Option Value} {base : Heap}
theorem sc__law_hash : FnScope ["seed", "index", "mixed"] ["seed", "index"] (defScope (topS 66)) := ⟨rfl, rfl, rfl, by decide +kernel, rfl, by decide +kernel, by decide +kernel⟩
def g__law_hash : SE → SO := (sSeq (sAsg 2 false (liftS (pOp gMod (pF gInt1 (pCons (pOp gAdd (pOp gAdd (pOp gAdd (pOp gMul (pV 0) (pC (.int 1140671))) (pOp gMul (pOp gMul (pC (.int 27644437)) (pV 1)) (pV 1))) (pOp gMul (pC (.int 131)) (pV 1))) (pC (.int 19))) pNil)) (pC (.int 2147483629))))) (sSeq (sAsg 2 false (liftS (pOp gMod (pF gInt1 (pCons (pOp gAdd (pOp gAdd (pOp gMul (pV 2) (pV 2)) (pOp gMul (pC (.int 62089)) (pV 1))) (pC (.int 32416187))) pNil)) (pC (.int 2147483587))))) (sRet false (liftS (pOp gMod (pF gInt1 (pCons (pOp gMul (pV 2) (pC (.int 48271))) pNil)) (pC (.int 2147483647)))))))
def m__law_hash : List T → PR T := runP false 3 2 (g__law_hash)
theorem f__law_hash (G : Gs K mg) : Fn PP w K mg base 1 "_law_hash" (topS 66) ["seed", "index"] (spP K w mg false (m__law_hash)) :=
  ok_pure G.d__law_hash sc__law_hash fun f cdv A outer s H E O WT hr L hp => (es_cons (es_asg (ps_set (i := 2) sc__law_hash.nd rfl (by first | exact .inl rfl | exact .inr rfl) (ee_S (ev_op op_mod ok_mod (ev_t call_int1 ok_int1 G.z_int rfl (ea_cons (ev_op or_add ok_add (ev_op or_add ok_add (ev_op or_add ok_add (ev_op or_mul ok_mul (ev_nv 0) ev_int) (ev_op or_mul ok_mul (ev_op or_mul ok_mul ev_int (ev_nv 1)) (ev_nv 1))) (ev_op or_mul ok_mul ev_int (ev_nv 1))) ev_int) ea_nil)) ev_int))) (fun _ _ _ h => h)) (es_cons (es_asg (ps_set (i := 2) sc__law_hash.nd rfl (by first | exact .inl rfl | exact .inr rfl) (ee_S (ev_op op_mod ok_mod (ev_t call_int1 ok_int1 G.z_int rfl (ea_cons (ev_op or_add ok_add (ev_op or_add ok_add (ev_op or_mul ok_mul (ev_nv 2) (ev_nv 2)) (ev_op or_mul ok_mul ev_int (ev_nv 1))) ev_int) ea_nil)) ev_int))) (fun _ _ _ h => h)) (es_one (es_ret (ps_ret (ee_S (ev_op op_mod ok_mod (ev_t call_int1 ok_int1 G.z_int rfl (ea_cons (ev_op or_mul ok_mul (ev_nv 2) ev_int) ea_nil)) ev_int))) (fun _ _ _ h => h)))))
theorem sc__law_random : FnScope ["generator", "bound", "drawn", "turn"] ["generator", "bound"] (defScope (topS 67)) := ⟨rfl, rfl, rfl, by decide +kernel, rfl, by decide +kernel, by decide +kernel⟩
def g__law_random : SE → SO := (sSeq (sIf (liftVT (pB (gCmp fun i j => decide (j < i)) (pOp gDix (pV 0) (pC (.int 0))) (pC (.int 0)))) (sSeq (sAsg 2 false (liftV (pOp gMod (pF gInt1 (pCons (pOp gDix (pV 0) (pC (.int 0))) pNil)) (pV 1)))) (sSeq (sSet 0 (liftV (pOp gDiv (pOp gDix (pV 0) (pC (.int 0))) (pV 1))) (liftS (pC (.int 0)))) (sRet false (liftS (pV 2))))) SO.nx) (sSeq (sAsg 2 false (liftS (pC (.int 0)))) (sSeq (sForE (liftS (pRng1 (pCons (pOp gAdd (pC (.int 1)) (pOp gDiv (pU gBits (pV 1)) (pC (.int 30)))) pNil))) (gNE 3) (sSeq (sSet 0 (liftV (pOp gAdd (pOp gDix (pV 0) (pC (.int 2))) (pC (.int 1)))) (liftS (pC (.int 2)))) (sAsg 2 false (liftV (pOp gAdd (pOp gMul (pV 2) (pC (.int 2147483587))) (pCall m__law_hash (pCons (pOp gDix (pV 0) (pC (.int 1))) (pCons (pOp gDix (pV 0) (pC (.int 2))) pNil)))))))) (sRet false (liftS (pOp gMod (pF gInt1 (pCons (pV 2) pNil)) (pV 1)))))))
def m__law_random : T → List T → PR (T × T) := runI false 4 2 (g__law_random)
theorem f__law_random (G : Gs K mg) : Fn PP w K mg base 2 "_law_random" (topS 67) ["generator", "bound"] (spI K w false (m__law_random)) :=
  ok_io G.d__law_random sc__law_random (by decide) fun f cdv A outer s H E O a hr L hp => (es_cons (es_if (eet_V (et_cmp op_gt ok_cmp (ev_ixD hr (ev_nv 0) ev_int) ev_int (nomark _))) (es_cons (es_asg (ps_set (i := 2) sc__law_random.nd rfl (by first | exact .inl rfl | exact .inr rfl) (ee_V (ev_op op_mod ok_mod (ev_t call_int1 ok_int1 G.z_int rfl (ea_cons (ev_ixD hr (ev_nv 0) ev_int) ea_nil)) (ev_nv 1)))) (fun _ _ _ h => h)) (es_cons (es_set (ps_asg (ee_V (ev_op op_fdiv ok_div (ev_ixD hr (ev_nv 0) ev_int) (ev_nv 1))) (pg_sub (pe_nv 0) (ee_S ev_int) (set_any (hu_of hr.toRoom))) rfl rfl) (fun _ _ _ h => h) (fun _ _ _ h => h)) (es_one (es_ret (ps_ret (ee_S (ev_nv 2))) (fun _ _ _ h => h))))) es_nil) (es_cons (es_asg (ps_set (i := 2) sc__law_random.nd rfl (by first | exact .inl rfl | exact .inr rfl) (ee_S ev_int)) (fun _ _ _ h => h)) (es_cons (es_forE (ps_for hp rfl (eei_p (ei_rng1 rfl G.z_range (ea_cons (ev_op or_add ok_add ev_int (ev_op op_fdiv ok_div (ev_bits (ev_nv 1)) ev_int)) ea_nil))) (pg_name (i := 3) sc__law_random.nd rfl (by first | exact .inl rfl | exact .inr rfl)) (es_cons (es_set (ps_asg (ee_V (ev_op or_add ok_add (ev_ixD hr (ev_nv 0) ev_int) ev_int)) (pg_sub (pe_nv 0) (ee_S ev_int) (set_any (hu_of hr.toRoom))) rfl rfl) (fun _ _ _ h => h) (fun _ _ _ h => h)) (es_one (es_asg (ps_set (i := 2) sc__law_random.nd rfl (by first | exact .inl rfl | exact .inr rfl) (ee_V (ev_op or_add ok_add (ev_op or_mul ok_mul (ev_nv 2) ev_int) (ev_call (f__law_hash G) hr (by omega) lets0 (ea_cons (ev_ixD hr (ev_nv 0) ev_int) (ea_cons (ev_ixD hr (ev_nv 0) ev_int) ea_nil)))))) (fun _ _ _ h => h))))) (fun _ _ _ _ => rd_gn) (fun _ _ _ h => h)) (es_one (es_ret (ps_ret (ee_S (ev_op op_mod ok_mod (ev_t call_int1 ok_int1 G.z_int rfl (ea_cons (ev_nv 2) ea_nil)) (ev_nv 1)))) (fun _ _ _ h => h))))))
theorem sc__law_drawn_order : FnScope ["generator", "told_ones", "left", "found"] ["generator", "told_ones"] (defScope (topS 71)) := ⟨rfl, rfl, rfl, by decide +kernel, rfl, by decide +kernel, by decide +kernel⟩
def g__law_drawn_order : SE → SO := (sSeq (sPar 2 3 true true (liftS (pF gList (pCons (pV 1) pNil))) (liftS (pLst pNil))) (sSeq (sWh 100 (liftVT (pB gNe (pV 2) (pLst pNil))) (sApp 3 (popAt 2 (eIo 0 m__law_random (eCons (liftV (pF gLenA (pCons (pV 2) pNil))) eNil))))) (fun ρ => (sRet true (mvS 3)) (frz 2 ρ))))
def m__law_drawn_order : T → List T → PR (T × T) := runI true 4 2 (g__law_drawn_order)
theorem f__law_drawn_order (G : Gs K mg) : Fn PP w K mg base 3 "_law_drawn_order" (topS 71) ["generator", "told_ones"] (spI K w true (m__law_drawn_order)) :=
  ok_io G.d__law_drawn_order sc__law_drawn_order (by decide) fun f cdv A outer s H E O a hr L hp => (es_cons (es_par (ps_par (i := 2) (j := 3) rfl sc__law_drawn_order.nd rfl rfl (by decide) rfl rfl (pa_cons (ee_N (ev_tN call_list_of new_list G.z_list rfl (ea_cons (ev_nv 1) ea_nil))) (pa_cons (ee_N (ev_lst ea_nil)) pa_nil)) rfl) (fun _ _ _ h => h) (fun _ _ _ h => h)) (es_cons (es_wh (n := 100) (ps_while hp (eet_V (et_cmp (op_neD hr.units) ok_ne (ev_nv 2) (ev_n (ev_lst ea_nil)) (nomark _))) (es_one (es_app (ps_expr (pe_bm PySem.F.plainAttrs_list PySem.F.slot_list_append PySem.F.type_list_append mt_append (pe_nv 3) (pa_cons (PEm (pe_bm PySem.F.plainAttrs_list PySem.F.slot_list_pop PySem.F.type_list_pop mt_popAt (pe_nv 2) (pa_cons (ee_io (f__law_random G) hr (by omega) L (pe_nv 0) (eea_cons (ee_V (ev_b call_lenA ok_lenA G.z_len rfl (ea_cons (ev_nv 2) ea_nil))) eea_nil)) pa_nil)) fun _ _ _ => rd_pop fun _ _ _ h => h) pa_nil))) (fun _ _ _ h => h)))) (fun _ _ _ h => h) (fun _ _ _ h => h)) (ess_frz 2 (es_one (es_ret (ps_ret (ee_mv (pe_nv 3))) (fun _ _ _ h => h))))))
theorem sc__law_pick : FnScope ["generator", "told_ones"] ["generator", "told_ones"] (defScope (topS 70)) := ⟨rfl, rfl, rfl, by decide +kernel, rfl, by decide +kernel, by decide +kernel⟩
def g__law_pick : SE → SO := (sRet false (eOp gIx (liftS (pV 1)) (eIo 0 m__law_random (eCons (liftS (pF gLenA (pCons (pV 1) pNil))) eNil))))
def m__law_pick : T → List T → PR (T × T) := runI false 2 2 (g__law_pick)
theorem f__law_pick (G : Gs K mg) : Fn PP w K mg base 3 "_law_pick" (topS 70) ["generator", "told_ones"] (spI K w false (m__law_pick)) :=
  ok_io G.d__law_pick sc__law_pick (by decide) fun f cdv A outer s H E O a hr L hp => (es_one (es_ret (ps_ret (ee_ix (ee_S (ev_nv 1)) (ee_io (f__law_random G) hr (by omega) L (pe_nv 0) (eea_cons (ee_S (ev_b call_lenA ok_lenA G.z_len rfl (ea_cons (ev_nv 1) ea_nil))) eea_nil)))) (fun _ _ _ h => h)))
theorem sc__law_drawn_row : FnScope ["generator", "most", "size", "many", "way", "names", "at", "row"] ["generator", "most"] (defScope (topS 72)) := ⟨rfl, rfl, rfl, by decide +kernel, rfl, by decide +kernel, by decide +kernel⟩
def g__law_drawn_row : SE → SO := (sSeq (sTup [2, 3, 4] (eTup (eCons (eOp gAdd (liftS (pC (.int 1))) (eIo 0 m__law_random (eCons (liftS (pV 1)) eNil))) (eCons (eIo 0 m__law_pick (eCons (liftS (pLst (pCons (pC (.int 2)) (pCons (pC (.int 3)) (pCons (pC (.int 4)) (pCons (pC (.int 6)) (pCons (pC (.int 10)) pNil))))))) eNil)) (eCons (eIo 0 m__law_random (eCons (liftS (pC (.int 4))) eNil)) eNil))))) (sSeq (sAsg 5 false (eSl (eIo 0 m__law_drawn_order (eCons (liftS (pLR1 (pC (.int 26)))) eNil)) eNoPart (ePart (liftS (pV 3))))) (sSeq (sIf (liftS (pB gEq (pV 4) (pC (.int 0)))) (sRet false (liftS (pLc (pRng1 (pCons (pV 2) pNil)) [6] (gN 6) pYes (pOp gDix (pV 5) (pOp gMod (pF gInt1 (pCons (pV 6) pNil)) (pV 3)))))) SO.nx) (sSeq (sAsg 7 false (eLc (liftS (pRng1 (pCons (pV 2) pNil))) [6] (gNE 6) (fun ρ => .ok true ρ) (eOp gIx (liftS (pV 5)) (eIo 0 m__law_random (eCons (liftS (pV 3)) eNil))))) (sSeq (sIf (liftS (pB gEq (pV 4) (pC (.int 1)))) (sAsg 7 false (eLc (liftS (pRng1 (pCons (pV 2) pNil))) [6] (gNE 6) (fun ρ => .ok true ρ) (eIf (eB (gCmp fun i j => decide (j < i)) (eIo 0 m__law_random (eCons (liftS (pC (.int 3))) eNil)) (liftS (pC (.int 0)))) (liftS (pOp gDix (pV 7) (pV 6))) (eOp gIx (liftS (pV 7)) (eF gMax2 (eCons (liftS (pC (.int 0))) (eCons (eOp gSub (liftS (pOp gSub (pV 6) (pC (.int 1)))) (eIo 0 m__law_random (eCons (liftS (pC (.int 3))) eNil))) eNil))))))) SO.nx) (sRet false (liftS (pV 7))))))))
def m__law_drawn_row : T → List T → PR (T × T) := runI false 8 2 (g__law_drawn_row)
theorem f__law_drawn_row (G : Gs K mg) : Fn PP w K mg base 4 "_law_drawn_row" (topS 72) ["generator", "most"] (spI K w false (m__law_drawn_row)) :=
  ok_io G.d__law_drawn_row sc__law_drawn_row (by decide) fun f cdv A outer s H E O a hr L hp => (es_cons (es_tup (is := [2, 3, 4]) (ps_asg (ee_tup (eea_cons (ee_op or_add ok_add (ee_S ev_int) (ee_io (f__law_random G) hr (by omega) L (pe_nv 0) (eea_cons (ee_S (ev_nv 1)) eea_nil))) (eea_cons (ee_io (f__law_pick G) hr (by omega) L (pe_nv 0) (eea_cons (ee_S (ev_n (ev_lst (ea_cons ev_int (ea_cons ev_int (ea_cons ev_int (ea_cons ev_int (ea_cons ev_int ea_nil)))))))) eea_nil)) (eea_cons (ee_io (f__law_random G) hr (by omega) L (pe_nv 0) (eea_cons (ee_S ev_int) eea_nil)) eea_nil)))) (pg_tup rfl (pgs_cons (pg_name (i := 2) sc__law_drawn_row.nd rfl (by first | exact .inl rfl | exact .inr rfl)) (pgs_cons (pg_name (i := 3) sc__law_drawn_row.nd rfl (by first | exact .inl rfl | exact .inr rfl)) (pgs_cons (pg_name (i := 4) sc__law_drawn_row.nd rfl (by first | exact .inl rfl | exact .inr rfl)) pgs_nil)))) rfl rfl) (fun _ _ _ h => h)) (es_cons (es_asg (ps_set (i := 5) sc__law_drawn_row.nd rfl (by first | exact .inl rfl | exact .inr rfl) (ee_n (ee_sl (ee_n (ee_io (f__law_drawn_order G) hr (by omega) L (pe_nv 0) (eea_cons (ee_S (ev_n (ev_lr1 rfl G.z_list G.z_range ev_int))) eea_nil))) eeo_none (eeo_some (ee_S (ev_nv 3)))))) (fun _ _ _ h => h)) (es_cons (es_if (eet_S (et_cmp (op_eqD hr.units) ok_eq (ev_nv 4) ev_int (nomark _))) (es_one (es_ret (ps_ret (ee_S (ev_n (ev_lc rfl sc__law_drawn_row.nd (ei_rng1 rfl G.z_range (ea_cons (ev_nv 2) ea_nil)) (blkOk_by (own := [("at", 6)]) (by kernel_rfl)) (fun _ _ _ _ _ => (eg_name (pg_name (i := 6) sc__law_drawn_row.nd rfl (by first | exact .inl rfl | exact .inr rfl)))) (fun _ _ _ _ _ => ets_nil) (fun _ _ _ _ _ => (ev_ixD hr (ev_nv 5) (ev_op op_mod ok_mod (ev_t call_int1 ok_int1 G.z_int rfl (ea_cons (ev_nv 6) ea_nil)) (ev_nv 3)))))))) (fun _ _ _ h => h))) es_nil) (es_cons (es_asg (ps_set (i := 7) sc__law_drawn_row.nd rfl (by first | exact .inl rfl | exact .inr rfl) (ee_n (ee_lc rfl sc__law_drawn_row.nd (eei_p (ei_rng1 rfl G.z_range (ea_cons (ev_nv 2) ea_nil))) (blkOk_by (own := [("at", 6)]) (by kernel_rfl)) (fun _ _ _ _ _ => (PGm (pg_name (i := 6) sc__law_drawn_row.nd rfl (by first | exact .inl rfl | exact .inr rfl)) fun _ _ _ _ => rd_gnX)) (fun _ _ _ _ _ => ets_nilE) (fun _ _ _ _ _ => (ee_ix (ee_S (ev_nv 5)) (ee_io (f__law_random G) hr (by omega) lets1 (pe_nv 0) (eea_cons (ee_S (ev_nv 3)) eea_nil))))))) (fun _ _ _ h => h)) (es_cons (es_if (eet_S (et_cmp (op_eqD hr.units) ok_eq (ev_nv 4) ev_int (nomark _))) (es_one (es_asg (ps_set (i := 7) sc__law_drawn_row.nd rfl (by first | exact .inl rfl | exact .inr rfl) (ee_n (ee_lc rfl sc__law_drawn_row.nd (eei_p (ei_rng1 rfl G.z_range (ea_cons (ev_nv 2) ea_nil))) (blkOk_by (own := [("at", 6)]) (by kernel_rfl)) (fun _ _ _ _ _ => (PGm (pg_name (i := 6) sc__law_drawn_row.nd rfl (by first | exact .inl rfl | exact .inr rfl)) fun _ _ _ _ => rd_gnX)) (fun _ _ _ _ _ => ets_nilE) (fun _ _ _ _ _ => (ee_if (eet_cmp op_gt ok_cmp (ee_io (f__law_random G) hr (by omega) lets1 (pe_nv 0) (eea_cons (ee_S ev_int) eea_nil)) (ee_S ev_int) (nomark _)) (ee_S (ev_ixD hr (ev_nv 7) (ev_nv 6))) (ee_ix (ee_S (ev_nv 7)) (ee_b (call_max2 rfl) ok_max2 G.z_max rfl (eea_cons (ee_S ev_int) (eea_cons (ee_op op_sub ok_sub (ee_S (ev_op op_sub ok_sub (ev_nv 6) ev_int)) (ee_io (f__law_random G) hr (by omega) lets1 (pe_nv 0) (eea_cons (ee_S ev_int) eea_nil))) eea_nil))))))))) (fun _ _ _ h => h))) es_nil) (es_one (es_ret (ps_ret (ee_S (ev_nv 7))) (fun _ _ _ h => h))))))))
theorem sc__law_cell : FnScope ["script", "index"] ["script", "index"] (defScope (topS 68)) := ⟨rfl, rfl, rfl, by decide +kernel, rfl, by decide +kernel, by decide +kernel⟩
def g__law_cell : SE → SO := (sSeq (sIf (liftS (pB (gCmp fun i j => decide (i < j)) (pV 1) (pF gLenA (pCons (pV 0) pNil)))) (sRet false (liftS (pOp gDix (pV 0) (pV 1)))) SO.nx) (sRet false (liftS (pOp gMod (pF gSum (pCons (pSl (pV 0) pNoPart (pPart (pC (.int 1)))) pNil)) (pC (.int 1000003))))))
def m__law_cell : List T → PR T := runP false 2 2 (g__law_cell)
theorem f__law_cell (G : Gs K mg) : Fn PP w K mg base 1 "_law_cell" (topS 68) ["script", "index"] (spP K w mg false (m__law_cell)) :=
  ok_pure G.d__law_cell sc__law_cell fun f cdv A outer s H E O WT hr L hp => (es_cons (es_if (eet_S (et_cmp op_lt ok_cmp (ev_nv 1) (ev_b call_lenA ok_lenA G.z_len rfl (ea_cons (ev_nv 0) ea_nil)) (nomark _))) (es_one (es_ret (ps_ret (ee_S (ev_ixD hr (ev_nv 0) (ev_nv 1)))) (fun _ _ _ h => h))) es_nil) (es_one (es_ret (ps_ret (ee_S (ev_op op_mod ok_mod (ev_b (cr_sum rfl) ok_sum G.z_sum rfl (ea_cons (ev_n (ev_sl (ev_nv 0) eo_none (eo_some ev_int))) ea_nil)) ev_int))) (fun _ _ _ h => h))))
theorem sc__law_generator : FnScope ["script", "index", "seed"] ["script", "index"] (defScope (topS 69)) := ⟨rfl, rfl, rfl, by decide +kernel, rfl, by decide +kernel, by decide +kernel⟩
def g__law_generator : SE → SO := (sSeq (sAsg 2 false (liftS (pCall m__law_cell (pCons (pV 0) (pCons (pV 1) pNil))))) (sRet true (liftS (pLst (pCons (pOp gMod (pF gInt1 (pCons (pF gMax2 (pCons (pOp gSub (pV 2) (pOp gPow (pC (.int 10)) (pC (.int 18)))) (pCons (pC (.int 0)) pNil))) pNil)) (pOp gPow (pOp gPow (pC (.int 10)) (pC (.int 60))) (pC (.int 10)))) (pCons (pOp gMod (pF gInt1 (pCons (pV 2) pNil)) (pC (.int 2147483647))) (pCons (pOp gMul (pC (.int 1000)) (pV 1)) pNil)))))))
def m__law_generator : List T → PR T := runP true 3 2 (g__law_generator)
theorem f__law_generator (G : Gs K mg) : Fn PP w K mg base 2 "_law_generator" (topS 69) ["script", "index"] (spP K w mg true (m__law_generator)) :=
  ok_pure G.d__law_generator sc__law_generator fun f cdv A outer s H E O WT hr L hp => (es_cons (es_asg (ps_set (i := 2) sc__law_generator.nd rfl (by first | exact .inl rfl | exact .inr rfl) (ee_S (ev_call (f__law_cell G) hr (by omega) L (ea_cons (ev_nv 0) (ea_cons (ev_nv 1) ea_nil))))) (fun _ _ _ h => h)) (es_one (es_ret (ps_ret (ee_N (ev_lst (ea_cons (ev_op op_mod ok_mod (ev_t call_int1 ok_int1 G.z_int rfl (ea_cons (ev_b (call_max2 rfl) ok_max2 G.z_max rfl (ea_cons (ev_op op_sub ok_sub (ev_nv 2) (ev_op op_powX ok_pow ev_int ev_int)) (ea_cons ev_int ea_nil))) ea_nil)) (ev_op op_powX ok_pow (ev_op op_powX ok_pow ev_int ev_int) ev_int)) (ea_cons (ev_op op_mod ok_mod (ev_t call_int1 ok_int1 G.z_int rfl (ea_cons (ev_nv 2) ea_nil)) ev_int) (ea_cons (ev_op or_mul ok_mul ev_int (ev_nv 1)) ea_nil)))))) (fun _ _ _ h => h))))
theorem sc_is_whole : FnScope ["value"] ["value"] (defScope (topS 12)) := ⟨rfl, rfl, rfl, by decide +kernel, rfl, by decide +kernel, by decide +kernel⟩
def g_is_whole : SE → SO := (sRet false (liftS (pAndV (pF gIsi (pCons (pV 0) (pCons (pC (.ty "int")) pNil))) (pNotV (pF gIsi (pCons (pV 0) (pCons (pC (.ty "bool")) pNil)))))))
def m_is_whole : List T → PR T := runP false 1 1 (g_is_whole)
theorem f_is_whole (G : Gs K mg) : Fn PP w K mg base 1 "is_whole" (topS 12) ["value"] (spP K w mg false (m_is_whole)) :=
  ok_pure G.d_is_whole sc_is_whole fun f cdv A outer s H E O WT hr L hp => (es_one (es_ret (ps_ret (ee_S (ev_and (ev_b call_isi ok_isi G.z_isinstance rfl (ea_cons (ev_nv 0) (ea_cons (ev_ty G.z_int rfl) ea_nil))) (ev_one (ev_not (ev_b call_isi ok_isi G.z_isinstance rfl (ea_cons (ev_nv 0) (ea_cons (ev_ty G.z_bool rfl) ea_nil)))))))) (fun _ _ _ h => h)))
theorem sc_is_count : FnScope ["value"] ["value"] (defScope (topS 13)) := ⟨rfl, rfl, rfl, by decide +kernel, rfl, by decide +kernel, by decide +kernel⟩
def g_is_count : SE → SO := (sRet false (liftS (pAndV (pCall m_is_whole (pCons (pV 0) pNil)) (pOfB (pB (gCmp fun i j => decide (j ≤ i)) (pV 0) (pC (.int 0)))))))
def m_is_count : List T → PR T := runP false 1 1 (g_is_count)
theorem f_is_count (G : Gs K mg) : Fn PP w K mg base 2 "is_count" (topS 13) ["value"] (spP K w mg false (m_is_count)) :=
  ok_pure G.d_is_count sc_is_count fun f cdv A outer s H E O WT hr L hp => (es_one (es_ret (ps_ret (ee_S (ev_and (ev_call (f_is_whole G) hr (by omega) L (ea_cons (ev_nv 0) ea_nil)) (ev_one (ev_cmp op_ge ok_cmp (ev_nv 0) ev_int (nomark _)))))) (fun _ _ _ h => h)))
theorem sc_is_below : FnScope ["value", "bound"] ["value", "bound"] (defScope (topS 14)) := ⟨rfl, rfl, rfl, by decide +kernel, rfl, by decide +kernel, by decide +kernel⟩
def g_is_below : SE → SO := (sRet false (liftS (pAndV (pCall m_is_count (pCons (pV 0) pNil)) (pOfB (pB (gCmp fun i j => decide (i < j)) (pV 0) (pV 1))))))
def m_is_below : List T → PR T := runP false 2 2 (g_is_below)
theorem f_is_below (G : Gs K mg) : Fn PP w K mg base 3 "is_below" (topS 14) ["value", "bound"] (spP K w mg false (m_is_below)) :=
  ok_pure G.d_is_below sc_is_below fun f cdv A outer s H E O WT hr L hp => (es_one (es_ret (ps_ret (ee_S (ev_and (ev_call (f_is_count G) hr (by omega) L (ea_cons (ev_nv 0) ea_nil)) (ev_one (ev_cmp op_lt ok_cmp (ev_nv 0) (ev_nv 1) (nomark _)))))) (fun _ _ _ h => h)))
theorem sc_is_thing : FnScope ["value"] ["value"] (defScope (topS 15)) := ⟨rfl, rfl, rfl, by decide +kernel, rfl, by decide +kernel, by decide +kernel⟩
def g_is_thing : SE → SO := (sRet false (liftS (pCall m_is_below (pCons (pV 0) (pCons (pC (.int 26)) pNil)))))
def m_is_thing : List T → PR T := runP false 1 1 (g_is_thing)
theorem f_is_thing (G : Gs K mg) : Fn PP w K mg base 4 "is_thing" (topS 15) ["value"] (spP K w mg false (m_is_thing)) :=
  ok_pure G.d_is_thing sc_is_thing fun f cdv A outer s H E O WT hr L hp => (es_one (es_ret (ps_ret (ee_S (ev_call (f_is_below G) hr (by omega) L (ea_cons (ev_nv 0) (ea_cons (ev_gi G.n_MOST_THINGS) ea_nil))))) (fun _ _ _ h => h)))
theorem sc_is_row : FnScope ["value", "thing"] ["value"] (defScope (topS 16)) := ⟨rfl, rfl, rfl, by decide +kernel, rfl, by decide +kernel, by decide +kernel⟩
def g_is_row : SE → SO := (sSeq (sIf (liftS (pOr (pNot (pTru (pF gIsi (pCons (pV 0) (pCons (pC (.ty "list")) pNil))))) (pNot (pCh (gCmp fun i j => decide (i ≤ j)) (gCmp fun i j => decide (i ≤ j)) (pC (.int 1)) (pF gLenA (pCons (pV 0) pNil)) (pC (.int 60)))))) (sRet false (liftS (pC (.bl false)))) SO.nx) (sRet false (liftS (pOfB (pB gEq (pLc (pItL (pV 0)) [1] (gN 1) (pNot (pTru (pCall m_is_thing (pCons (pV 1) pNil)))) (pV 1)) (pLst pNil))))))
def m_is_row : List T → PR T := runP false 2 1 (g_is_row)
theorem f_is_row (G : Gs K mg) : Fn PP w K mg base 5 "is_row" (topS 16) ["value"] (spP K w mg false (m_is_row)) :=
  ok_pure G.d_is_row sc_is_row fun f cdv A outer s H E O WT hr L hp => (es_cons (es_if (eet_S (ew_or (et_not (et_tru (ev_b call_isi ok_isi G.z_isinstance rfl (ea_cons (ev_nv 0) (ea_cons (ev_ty G.z_list rfl) ea_nil))))) (ew_or1 (et_not (et_chain op_le op_le ok_cmp ok_cmp ev_int (ev_b call_lenA ok_lenA G.z_len rfl (ea_cons (ev_nv 0) ea_nil)) (ev_gi G.n_LONGEST))))).pt) (es_one (es_ret (ps_ret (ee_S ev_bl)) (fun _ _ _ h => h))) es_nil) (es_one (es_ret (ps_ret (ee_S (ev_cmp (op_eqD hr.units) ok_eq (ev_n (ev_lc rfl sc_is_row.nd (ei_lst (ev_nv 0)) (blkOk_by (own := [("thing", 1)]) (by kernel_rfl)) (fun _ _ _ _ _ => (eg_name (pg_name (i := 1) sc_is_row.nd rfl (by first | exact .inl rfl | exact .inr rfl)))) (fun _ _ _ _ _ => (ets_one (et_not (et_tru (ev_call (f_is_thing G) hr (by omega) lets0 (ea_cons (ev_nv 1) ea_nil)))))) (fun _ _ _ _ _ => (ev_nv 1)))) (ev_n (ev_lst ea_nil)) (nomark _)))) (fun _ _ _ h => h))))
theorem sc_check_row : FnScope ["row"] ["row"] (defScope (topS 19)) := ⟨rfl, rfl, rfl, by decide +kernel, rfl, by decide +kernel, by decide +kernel⟩
def g_check_row : SE → SO := (sIf (liftS (pNot (pTru (pCall m_is_row (pCons (pV 0) pNil))))) sNever SO.nx)
def m_check_row : List T → PR T := runP false 1 1 (g_check_row)
theorem f_check_row (G : Gs K mg) : Fn PP w K mg base 6 "check_row" (topS 19) ["row"] (spP K w mg false (m_check_row)) :=
  ok_pure G.d_check_row sc_check_row fun f cdv A outer s H E O WT hr L hp => (es_one (es_if (eet_S (et_not (et_tru (ev_call (f_is_row G) hr (by omega) L (ea_cons (ev_nv 0) ea_nil))))) (es_one es_never) es_nil))
theorem sc_is_places : FnScope ["value"] ["value"] (defScope (topS 17)) := ⟨rfl, rfl, rfl, by decide +kernel, rfl, by decide +kernel, by decide +kernel⟩
def g_is_places : SE → SO := (sRet false (liftS (pAndV (pCall m_is_whole (pCons (pV 0) pNil)) (pOfB (pCh (gCmp fun i j => decide (i ≤ j)) (gCmp fun i j => decide (i ≤ j)) (pC (.int 1)) (pV 0) (pC (.int 26)))))))
def m_is_places : List T → PR T := runP false 1 1 (g_is_places)
theorem f_is_places (G : Gs K mg) : Fn PP w K mg base 2 "is_places" (topS 17) ["value"] (spP K w mg false (m_is_places)) :=
  ok_pure G.d_is_places sc_is_places fun f cdv A outer s H E O WT hr L hp => (es_one (es_ret (ps_ret (ee_S (ev_and (ev_call (f_is_whole G) hr (by omega) L (ea_cons (ev_nv 0) ea_nil)) (ev_one (ev_chain op_le op_le ok_cmp ok_cmp ev_int (ev_nv 0) (ev_gi G.n_MOST_THINGS)))))) (fun _ _ _ h => h)))
theorem sc_check_shelves : FnScope ["shelves", "each"] ["shelves", "each"] (defScope (topS 62)) := ⟨rfl, rfl, rfl, by decide +kernel, rfl, by decide +kernel, by decide +kernel⟩
def g_check_shelves : SE → SO := (sSeq (sIf (liftS (pNot (pTru (pCall m_is_places (pCons (pV 0) pNil))))) sNever SO.nx) (sIf (liftS (pOr (pNot (pTru (pCall m_is_places (pCons (pV 1) pNil)))) (pB (gCmp fun i j => decide (j < i)) (pOp gMul (pV 0) (pV 1)) (pC (.int 26))))) sNever SO.nx))
def m_check_shelves : List T → PR T := runP false 2 2 (g_check_shelves)
theorem f_check_shelves (G : Gs K mg) : Fn PP w K mg base 3 "check_shelves" (topS 62) ["shelves", "each"] (spP K w mg false (m_check_shelves)) :=
  ok_pure G.d_check_shelves sc_check_shelves fun f cdv A outer s H E O WT hr L hp => (es_cons (es_if (eet_S (et_not (et_tru (ev_call (f_is_places G) hr (by omega) L (ea_cons (ev_nv 0) ea_nil))))) (es_one es_never) es_nil) (es_one (es_if (eet_S (ew_or (et_not (et_tru (ev_call (f_is_places G) hr (by omega) L (ea_cons (ev_nv 1) ea_nil)))) (ew_or1 (et_cmp op_gt ok_cmp (ev_op or_mul ok_mul (ev_nv 0) (ev_nv 1)) (ev_gi G.n_MOST_THINGS) (nomark _)))).pt) (es_one es_never) es_nil)))
theorem sc_distances_of : FnScope ["row", "found", "now", "thing", "other"] ["row"] (defScope (topS 25)) := ⟨rfl, rfl, rfl, by decide +kernel, rfl, by decide +kernel, by decide +kernel⟩
def g_distances_of : SE → SO := (sSeq (sAsg 1 true (liftS (pLst pNil))) (sSeq (sAsg 2 false (liftS (pLst pNil))) (sSeq (sForE (liftS (pItL (pV 0))) (gNE 3) (sSeq (sApp 1 (liftS (pIf (pB gInA (pV 3) (pV 2)) (pLm gIndex (pV 2) (pCons (pV 3) pNil)) (pC .non)))) (sAsg 2 false (liftS (pOp gCat (pLst (pCons (pV 3) pNil)) (pLc (pItL (pV 2)) [4] (gN 4) (pB gNe (pV 4) (pV 3)) (pV 4))))))) (sRet true (mvS 1)))))
def m_distances_of : List T → PR T := runP true 5 1 (g_distances_of)
theorem f_distances_of (G : Gs K mg) : Fn PP w K mg base 1 "distances_of" (topS 25) ["row"] (spP K w mg true (m_distances_of)) :=
  ok_pure G.d_distances_of sc_distances_of fun f cdv A outer s H E O WT hr L hp => (es_cons (es_asg (ps_set (i := 1) sc_distances_of.nd rfl (by first | exact .inl rfl | exact .inr rfl) (ee_N (ev_lst ea_nil))) (fun _ _ _ h => h)) (es_cons (es_asg (ps_set (i := 2) sc_distances_of.nd rfl (by first | exact .inl rfl | exact .inr rfl) (ee_S (ev_n (ev_lst ea_nil)))) (fun _ _ _ h => h)) (es_cons (es_forE (ps_for hp rfl (eei_p (ei_lst (ev_nv 0))) (pg_name (i := 3) sc_distances_of.nd rfl (by first | exact .inl rfl | exact .inr rfl)) (es_cons (es_app (ps_expr (pe_bm PySem.F.plainAttrs_list PySem.F.slot_list_append PySem.F.type_list_append mt_append (pe_nv 1) (pa_cons (ee_S (ev_if (et_cmp or_inA ok_inA (ev_nv 3) (ev_nv 2) rfl) (PEm (pe_bm PySem.F.plainAttrs_list PySem.F.slot_list_index PySem.F.type_list_index mt_index (ev_nv 2) (ea_cons (ev_nv 3) ea_nil)) fun _ _ _ => rd_lm rfl ok_index) ev_non)) pa_nil))) (fun _ _ _ h => h)) (es_one (es_asg (ps_set (i := 2) sc_distances_of.nd rfl (by first | exact .inl rfl | exact .inr rfl) (ee_S (ev_n (ev_opN op_cat new_cat (ev_n (ev_lst (ea_cons (ev_nv 3) ea_nil))) (ev_n (ev_lc rfl sc_distances_of.nd (ei_lst (ev_nv 2)) (blkOk_by (own := [("other", 4)]) (by kernel_rfl)) (fun _ _ _ _ _ => (eg_name (pg_name (i := 4) sc_distances_of.nd rfl (by first | exact .inl rfl | exact .inr rfl)))) (fun _ _ _ _ _ => (ets_one (et_cmp (op_neD hr.units) ok_ne (ev_nv 4) (ev_nv 3) (nomark _)))) (fun _ _ _ _ _ => (ev_nv 4)))))))) (fun _ _ _ h => h))))) (fun _ _ _ _ => rd_gn) (fun _ _ _ h => h)) (es_one (es_ret (ps_ret (ee_mv (pe_nv 1))) (fun _ _ _ h => h))))))
theorem sc_shelf_hits : FnScope ["row", "shelves", "each", "found", "shelf", "asks", "ask", "thing", "told", "at"] ["row", "shelves", "each"] (defScope (topS 63)) := ⟨rfl, rfl, rfl, by decide +kernel, rfl, by decide +kernel, by decide +kernel⟩
def g_shelf_hits : SE → SO := (sSeq (sAsg 3 true (liftS (pOp gRepN (pLst (pCons (pC (.bl false)) pNil)) (pF gLenA (pCons (pV 0) pNil))))) (sSeq (sForE (liftS (pRng1 (pCons (pV 1) pNil))) (gNE 4) (sSeq (sAsg 5 false (liftS (pLc (pEnum (pCons (pV 0) pNil)) [6, 7] (gT2 6 7) (pB gEq (pOp gMod (pV 7) (pV 1)) (pV 4)) (pV 6)))) (sSeq (sAsg 8 false (liftS (pCall m_distances_of (pCons (pLc (pItL (pV 5)) [6] (gN 6) pYes (pOp gDix (pV 0) (pV 6))) pNil)))) (sForE (liftS (pEnum (pCons (pV 5) pNil))) (gTE [9, 6]) (sSet 3 (liftS (pAndV (pOfB (pNotN (pOp gDix (pV 8) (pV 9)))) (pOfB (pB (gCmp fun i j => decide (i < j)) (pOp gDix (pV 8) (pV 9)) (pV 2))))) (liftS (pV 6))))))) (sRet true (mvS 3))))
def m_shelf_hits : List T → PR T := runP true 10 3 (g_shelf_hits)
theorem f_shelf_hits (G : Gs K mg) : Fn PP w K mg base 2 "shelf_hits" (topS 63) ["row", "shelves", "each"] (spP K w mg true (m_shelf_hits)) :=
  ok_pure G.d_shelf_hits sc_shelf_hits fun f cdv A outer s H E O WT hr L hp => (es_cons (es_asg (ps_set (i := 3) sc_shelf_hits.nd rfl (by first | exact .inl rfl | exact .inr rfl) (ee_N (ev_opN op_rep new_rep_ (ev_n (ev_lst (ea_cons ev_bl ea_nil))) (ev_b call_lenA ok_lenA G.z_len rfl (ea_cons (ev_nv 0) ea_nil))))) (fun _ _ _ h => h)) (es_cons (es_forE (ps_for hp rfl (eei_p (ei_rng1 rfl G.z_range (ea_cons (ev_nv 1) ea_nil))) (pg_name (i := 4) sc_shelf_hits.nd rfl (by first | exact .inl rfl | exact .inr rfl)) (es_cons (es_asg (k := false) (ps_setLc (i := 5) rfl sc_shelf_hits.nd rfl rfl (sw_true rfl rfl rfl rfl) (ei_enum rfl G.z_enumerate (ea_cons (ev_nv 0) ea_nil)) (blkOk_by (own := [("ask", 6), ("thing", 7)]) (by kernel_rfl)) (fun _ _ _ _ _ => (eg_t2 rfl (pg_tup rfl (pgs_cons (pg_name (i := 6) sc_shelf_hits.nd rfl (by first | exact .inl rfl | exact .inr rfl)) (pgs_cons (pg_name (i := 7) sc_shelf_hits.nd rfl (by first | exact .inl rfl | exact .inr rfl)) pgs_nil))))) (fun _ _ _ _ _ => (ets_one (et_cmp (op_eqD hr.units) ok_eq (ev_op op_mod ok_mod (ev_nv 7) (ev_nv 1)) (ev_nv 4) (nomark _)))) (fun _ _ _ _ _ => (ev_nv 6))) (fun _ _ _ h => rd_lc (by decide) (rd_SN (rd_EN (k := true) h)))) (es_cons (es_asg (ps_set (i := 8) sc_shelf_hits.nd rfl (by first | exact .inl rfl | exact .inr rfl) (ee_S (ev_n (ev_callN (f_distances_of G) hr (by omega) L (ea_cons (ev_n (ev_lc rfl sc_shelf_hits.nd (ei_lst (ev_nv 5)) (blkOk_by (own := [("ask", 6)]) (by kernel_rfl)) (fun _ _ _ _ _ => (eg_name (pg_name (i := 6) sc_shelf_hits.nd rfl (by first | exact .inl rfl | exact .inr rfl)))) (fun _ _ _ _ _ => ets_nil) (fun _ _ _ _ _ => (ev_ixD hr (ev_nv 0) (ev_nv 6))))) ea_nil))))) (fun _ _ _ h => h)) (es_one (es_forE (ps_for hp rfl (eei_p (ei_enum rfl G.z_enumerate (ea_cons (ev_nv 5) ea_nil))) (pg_tup rfl (pgs_cons (pg_name (i := 9) sc_shelf_hits.nd rfl (by first | exact .inl rfl | exact .inr rfl)) (pgs_cons (pg_name (i := 6) sc_shelf_hits.nd rfl (by first | exact .inl rfl | exact .inr rfl)) pgs_nil))) (es_one (es_set (ps_asg (ee_S (ev_and (ev_notN (ev_ixD hr (ev_nv 8) (ev_nv 9))) (ev_one (ev_cmp op_lt ok_cmp (ev_ixD hr (ev_nv 8) (ev_nv 9)) (ev_nv 2) (nomark _))))) (pg_sub (pe_nv 3) (ee_S (ev_nv 6)) (set_any (hu_of hr.toRoom))) rfl rfl) (fun _ _ _ h => h) (fun _ _ _ h => h)))) (fun _ _ _ _ => rd_gt rfl rfl) (fun _ _ _ h => h)))))) (fun _ _ _ _ => rd_gn) (fun _ _ _ h => h)) (es_one (es_ret (ps_ret (ee_mv (pe_nv 3))) (fun _ _ _ h => h)))))
theorem sc_blames : FnScope ["row", "shelves", "each", "told", "hits", "found", "ask", "far"] ["row", "shelves", "each"] (defScope (topS 64)) := ⟨rfl, rfl, rfl, by decide +kernel, rfl, by decide +kernel, by decide +kernel⟩
def g_blames : SE → SO := (sSeq (sDrop (liftS (pCall m_check_row (pCons (pV 0) pNil)))) (sSeq (sDrop (liftS (pCall m_check_shelves (pCons (pV 1) (pCons (pV 2) pNil))))) (sSeq (sAsg 3 false (liftS (pCall m_distances_of (pCons (pV 0) pNil)))) (sSeq (sAsg 4 false (liftS (pCall m_shelf_hits (pCons (pV 0) (pCons (pV 1) (pCons (pV 2) pNil)))))) (sSeq (sAsg 5 true (liftS (pLst pNil))) (sSeq (sForE (liftS (pEnum (pCons (pV 3) pNil))) (gTE [6, 7]) (sIf (liftS (pTru (pOp gDix (pV 4) (pV 6)))) (sApp 5 (liftS (pC (.str "hit")))) (sIf (liftS (pIsN (pV 7))) (sApp 5 (liftS (pC (.str "first")))) (sApp 5 (liftS (pIf (pB (gCmp fun i j => decide (j ≤ i)) (pV 7) (pOp gMul (pV 1) (pV 2))) (pC (.str "full")) (pC (.str "shelf")))))))) (sRet true (mvS 5))))))))
def m_blames : List T → PR T := runP true 8 3 (g_blames)
theorem f_blames (G : Gs K mg) : Fn PP w K mg base 7 "blames" (topS 64) ["row", "shelves", "each"] (spP K w mg true (m_blames)) :=
  ok_pure G.d_blames sc_blames fun f cdv A outer s H E O WT hr L hp => (es_cons (es_expr (ps_expr (ee_S (ev_call (f_check_row G) hr (by omega) L (ea_cons (ev_nv 0) ea_nil)))) (fun _ _ _ h => h)) (es_cons (es_expr (ps_expr (ee_S (ev_call (f_check_shelves G) hr (by omega) L (ea_cons (ev_nv 1) (ea_cons (ev_nv 2) ea_nil))))) (fun _ _ _ h => h)) (es_cons (es_asg (ps_set (i := 3) sc_blames.nd rfl (by first | exact .inl rfl | exact .inr rfl) (ee_S (ev_n (ev_callN (f_distances_of G) hr (by omega) L (ea_cons (ev_nv 0) ea_nil))))) (fun _ _ _ h => h)) (es_cons (es_asg (ps_set (i := 4) sc_blames.nd rfl (by first | exact .inl rfl | exact .inr rfl) (ee_S (ev_n (ev_callN (f_shelf_hits G) hr (by omega) L (ea_cons (ev_nv 0) (ea_cons (ev_nv 1) (ea_cons (ev_nv 2) ea_nil))))))) (fun _ _ _ h => h)) (es_cons (es_asg (ps_set (i := 5) sc_blames.nd rfl (by first | exact .inl rfl | exact .inr rfl) (ee_N (ev_lst ea_nil))) (fun _ _ _ h => h)) (es_cons (es_forE (ps_for hp rfl (eei_p (ei_enum rfl G.z_enumerate (ea_cons (ev_nv 3) ea_nil))) (pg_tup rfl (pgs_cons (pg_name (i := 6) sc_blames.nd rfl (by first | exact .inl rfl | exact .inr rfl)) (pgs_cons (pg_name (i := 7) sc_blames.nd rfl (by first | exact .inl rfl | exact .inr rfl)) pgs_nil))) (es_one (es_if (eet_S (et_tru (ev_ixD hr (ev_nv 4) (ev_nv 6)))) (es_one (es_app (ps_expr (pe_bm PySem.F.plainAttrs_list PySem.F.slot_list_append PySem.F.type_list_append mt_append (pe_nv 5) (pa_cons (ee_S ev_str) pa_nil))) (fun _ _ _ h => h))) (es_one (es_if (eet_S (et_isN (ev_nv 7))) (es_one (es_app (ps_expr (pe_bm PySem.F.plainAttrs_list PySem.F.slot_list_append PySem.F.type_list_append mt_append (pe_nv 5) (pa_cons (ee_S ev_str) pa_nil))) (fun _ _ _ h => h))) (es_one (es_app (ps_expr (pe_bm PySem.F.plainAttrs_list PySem.F.slot_list_append PySem.F.type_list_append mt_append (pe_nv 5) (pa_cons (ee_S (ev_if (et_cmp op_ge ok_cmp (ev_nv 7) (ev_op or_mul ok_mul (ev_nv 1) (ev_nv 2)) (nomark _)) ev_str ev_str)) pa_nil))) (fun _ _ _ h => h)))))))) (fun _ _ _ _ => rd_gt rfl rfl) (fun _ _ _ h => h)) (es_one (es_ret (ps_ret (ee_mv (pe_nv 5))) (fun _ _ _ h => h)))))))))
theorem sc_is_log : FnScope ["sizes", "value", "mark"] ["sizes", "value"] (defScope (topS 45)) := ⟨rfl, rfl, rfl, by decide +kernel, rfl, by decide +kernel, by decide +kernel⟩
def g_is_log : SE → SO := (sSeq (sIf (liftS (pOr (pNot (pTru (pF gIsi (pCons (pV 1) (pCons (pC (.ty "list")) pNil))))) (pNot (pCh (gCmp fun i j => decide (i ≤ j)) (gCmp fun i j => decide (i ≤ j)) (pC (.int 1)) (pF gLenA (pCons (pV 1) pNil)) (pC (.int 60)))))) (sRet false (liftS (pC (.bl false)))) SO.nx) (sRet false (liftS (pOfB (pB gEq (pLc (pItL (pV 1)) [2] (gN 2) (pAnd (pNotN (pV 2)) (pNot (pTru (pCall m_is_below (pCons (pV 2) (pCons (pF gLenA (pCons (pV 0) pNil)) pNil)))))) (pV 2)) (pLst pNil))))))
def m_is_log : List T → PR T := runP false 3 2 (g_is_log)
theorem f_is_log (G : Gs K mg) : Fn PP w K mg base 4 "is_log" (topS 45) ["sizes", "value"] (spP K w mg false (m_is_log)) :=
  ok_pure G.d_is_log sc_is_log fun f cdv A outer s H E O WT hr L hp => (es_cons (es_if (eet_S (ew_or (et_not (et_tru (ev_b call_isi ok_isi G.z_isinstance rfl (ea_cons (ev_nv 1) (ea_cons (ev_ty G.z_list rfl) ea_nil))))) (ew_or1 (et_not (et_chain op_le op_le ok_cmp ok_cmp ev_int (ev_b call_lenA ok_lenA G.z_len rfl (ea_cons (ev_nv 1) ea_nil)) (ev_gi G.n_LONGEST))))).pt) (es_one (es_ret (ps_ret (ee_S ev_bl)) (fun _ _ _ h => h))) es_nil) (es_one (es_ret (ps_ret (ee_S (ev_cmp (op_eqD hr.units) ok_eq (ev_n (ev_lc rfl sc_is_log.nd (ei_lst (ev_nv 1)) (blkOk_by (own := [("mark", 2)]) (by kernel_rfl)) (fun _ _ _ _ _ => (eg_name (pg_name (i := 2) sc_is_log.nd rfl (by first | exact .inl rfl | exact .inr rfl)))) (fun _ _ _ _ _ => (ets_one (ew_and (et_notN (ev_nv 2)) (ew_and1 (et_not (et_tru (ev_call (f_is_below G) hr (by omega) lets0 (ea_cons (ev_nv 2) (ea_cons (ev_b call_lenA ok_lenA G.z_len rfl (ea_cons (ev_nv 0) ea_nil)) ea_nil))))))).pt)) (fun _ _ _ _ _ => (ev_nv 2)))) (ev_n (ev_lst ea_nil)) (nomark _)))) (fun _ _ _ h => h))))
theorem sc_check_log : FnScope ["sizes", "log"] ["sizes", "log"] (defScope (topS 46)) := ⟨rfl, rfl, rfl, by decide +kernel, rfl, by decide +kernel, by decide +kernel⟩
def g_check_log : SE → SO := (sIf (liftS (pNot (pTru (pCall m_is_log (pCons (pV 0) (pCons (pV 1) pNil)))))) sNever SO.nx)
def m_check_log : List T → PR T := runP false 2 2 (g_check_log)
theorem f_check_log (G : Gs K mg) : Fn PP w K mg base 5 "check_log" (topS 46) ["sizes", "log"] (spP K w mg false (m_check_log)) :=
  ok_pure G.d_check_log sc_check_log fun f cdv A outer s H E O WT hr L hp => (es_one (es_if (eet_S (et_not (et_tru (ev_call (f_is_log G) hr (by omega) L (ea_cons (ev_nv 0) (ea_cons (ev_nv 1) ea_nil)))))) (es_one es_never) es_nil))
theorem sc_are_sizes : FnScope ["value", "size", "at"] ["value"] (defScope (topS 43)) := ⟨rfl, rfl, rfl, by decide +kernel, rfl, by decide +kernel, by decide +kernel⟩
def g_are_sizes : SE → SO := (sSeq (sIf (liftS (pOr (pNot (pTru (pF gIsi (pCons (pV 0) (pCons (pC (.ty "list")) pNil))))) (pOr (pB gEq (pV 0) (pLst pNil)) (pB gNe (pLc (pItL (pV 0)) [1] (gN 1) (pNot (pTru (pCall m_is_places (pCons (pV 1) pNil)))) (pV 1)) (pLst pNil))))) (sRet false (liftS (pC (.bl false)))) SO.nx) (sRet false (liftS (pOfB (pB gEq (pLc (pRng2 (pCons (pC (.int 1)) (pCons (pF gLenA (pCons (pV 0) pNil)) pNil))) [2] (gN 2) (pB (gCmp fun i j => decide (j ≤ i)) (pOp gDix (pV 0) (pOp gSub (pV 2) (pC (.int 1)))) (pOp gDix (pV 0) (pV 2))) (pV 2)) (pLst pNil))))))
def m_are_sizes : List T → PR T := runP false 3 1 (g_are_sizes)
theorem f_are_sizes (G : Gs K mg) : Fn PP w K mg base 3 "are_sizes" (topS 43) ["value"] (spP K w mg false (m_are_sizes)) :=
  ok_pure G.d_are_sizes sc_are_sizes fun f cdv A outer s H E O WT hr L hp => (es_cons (es_if (eet_S (ew_or (et_not (et_tru (ev_b call_isi ok_isi G.z_isinstance rfl (ea_cons (ev_nv 0) (ea_cons (ev_ty G.z_list rfl) ea_nil))))) (ew_or (et_cmp (op_eqD hr.units) ok_eq (ev_nv 0) (ev_n (ev_lst ea_nil)) (nomark _)) (ew_or1 (et_cmp (op_neD hr.units) ok_ne (ev_n (ev_lc rfl sc_are_sizes.nd (ei_lst (ev_nv 0)) (blkOk_by (own := [("size", 1)]) (by kernel_rfl)) (fun _ _ _ _ _ => (eg_name (pg_name (i := 1) sc_are_sizes.nd rfl (by first | exact .inl rfl | exact .inr rfl)))) (fun _ _ _ _ _ => (ets_one (et_not (et_tru (ev_call (f_is_places G) hr (by omega) lets0 (ea_cons (ev_nv 1) ea_nil)))))) (fun _ _ _ _ _ => (ev_nv 1)))) (ev_n (ev_lst ea_nil)) (nomark _))))).pt) (es_one (es_ret (ps_ret (ee_S ev_bl)) (fun _ _ _ h => h))) es_nil) (es_one (es_ret (ps_ret (ee_S (ev_cmp (op_eqD hr.units) ok_eq (ev_n (ev_lc rfl sc_are_sizes.nd (ei_rng2 rfl G.z_range (ea_cons ev_int (ea_cons (ev_b call_lenA ok_lenA G.z_len rfl (ea_cons (ev_nv 0) ea_nil)) ea_nil))) (blkOk_by (own := [("at", 2)]) (by kernel_rfl)) (fun _ _ _ _ _ => (eg_name (pg_name (i := 2) sc_are_sizes.nd rfl (by first | exact .inl rfl | exact .inr rfl)))) (fun _ _ _ _ _ => (ets_one (et_cmp op_ge ok_cmp (ev_ixD hr (ev_nv 0) (ev_op op_sub ok_sub (ev_nv 2) ev_int)) (ev_ixD hr (ev_nv 0) (ev_nv 2)) (nomark _)))) (fun _ _ _ _ _ => (ev_nv 2)))) (ev_n (ev_lst ea_nil)) (nomark _)))) (fun _ _ _ h => h))))
theorem sc_check_sizes : FnScope ["sizes"] ["sizes"] (defScope (topS 44)) := ⟨rfl, rfl, rfl, by decide +kernel, rfl, by decide +kernel, by decide +kernel⟩
def g_check_sizes : SE → SO := (sIf (liftS (pNot (pTru (pCall m_are_sizes (pCons (pV 0) pNil))))) sNever SO.nx)
def m_check_sizes : List T → PR T := runP false 1 1 (g_check_sizes)
theorem f_check_sizes (G : Gs K mg) : Fn PP w K mg base 4 "check_sizes" (topS 44) ["sizes"] (spP K w mg false (m_check_sizes)) :=
  ok_pure G.d_check_sizes sc_check_sizes fun f cdv A outer s H E O WT hr L hp => (es_one (es_if (eet_S (et_not (et_tru (ev_call (f_are_sizes G) hr (by omega) L (ea_cons (ev_nv 0) ea_nil))))) (es_one es_never) es_nil))
theorem sc_least_far : FnScope ["sizes", "mark"] ["sizes", "mark"] (defScope (topS 49)) := ⟨rfl, rfl, rfl, by decide +kernel, rfl, by decide +kernel, by decide +kernel⟩
def g_least_far : SE → SO := (sRet false (liftS (pIf (pB gEq (pV 1) (pC (.int 0))) (pC (.int 0)) (pOp gDix (pV 0) (pOp gSub (pV 1) (pC (.int 1)))))))
def m_least_far : List T → PR T := runP false 2 2 (g_least_far)
theorem f_least_far (G : Gs K mg) : Fn PP w K mg base 1 "least_far" (topS 49) ["sizes", "mark"] (spP K w mg false (m_least_far)) :=
  ok_pure G.d_least_far sc_least_far fun f cdv A outer s H E O WT hr L hp => (es_one (es_ret (ps_ret (ee_S (ev_if (et_cmp (op_eqD hr.units) ok_eq (ev_nv 1) ev_int (nomark _)) ev_int (ev_ixD hr (ev_nv 0) (ev_op op_sub ok_sub (ev_nv 1) ev_int))))) (fun _ _ _ h => h)))
theorem sc_told_distances : FnScope ["sizes", "log", "most", "found", "many", "ask", "mark", "far"] ["sizes", "log", "most"] (defScope (topS 50)) := ⟨rfl, rfl, rfl, by decide +kernel, rfl, by decide +kernel, by decide +kernel⟩
def g_told_distances : SE → SO := (sSeq (sAsg 3 true (liftS (pLst pNil))) (sSeq (sAsg 4 false (liftS (pC (.int 0)))) (sSeq (sForE (liftS (pEnum (pCons (pV 1) pNil))) (gTE [5, 6]) (sIf (liftS (pNotN (pV 6))) (sSeq (sAsg 7 false (liftS (pCall m_least_far (pCons (pV 0) (pCons (pV 6) pNil))))) (sSeq (sIf (liftS (pB (gCmp fun i j => decide (j ≤ i)) (pV 7) (pV 4))) (sRet false (liftS (pTup (pCons (pC .non) (pCons (pV 5) pNil))))) SO.nx) (sApp 3 (liftS (pV 7))))) (sIf (liftS (pB (gCmp fun i j => decide (i < j)) (pV 4) (pV 2))) (sSeq (sApp 3 (liftS (pC .non))) (sAsg 4 false (liftS (pOp gAdd (pV 4) (pC (.int 1)))))) (sIf (liftS (pB (gCmp fun i j => decide (j < i)) (pV 4) (pOp gDix (pV 0) (pU gNeg (pC (.int 1)))))) (sApp 3 (liftS (pOp gDix (pV 0) (pU gNeg (pC (.int 1)))))) (sRet false (liftS (pTup (pCons (pC .non) (pCons (pV 5) pNil))))))))) (fun ρ => (sRet false (liftS (pTup (pCons (pV 3) (pCons (pC .non) pNil))))) (frz 3 ρ)))))
def m_told_distances : List T → PR T := runP false 8 3 (g_told_distances)
theorem f_told_distances (G : Gs K mg) : Fn PP w K mg base 2 "told_distances" (topS 50) ["sizes", "log", "most"] (spP K w mg false (m_told_distances)) :=
  ok_pure G.d_told_distances sc_told_distances fun f cdv A outer s H E O WT hr L hp => (es_cons (es_asg (ps_set (i := 3) sc_told_distances.nd rfl (by first | exact .inl rfl | exact .inr rfl) (ee_N (ev_lst ea_nil))) (fun _ _ _ h => h)) (es_cons (es_asg (ps_set (i := 4) sc_told_distances.nd rfl (by first | exact .inl rfl | exact .inr rfl) (ee_S ev_int)) (fun _ _ _ h => h)) (es_cons (es_forE (ps_for hp rfl (eei_p (ei_enum rfl G.z_enumerate (ea_cons (ev_nv 1) ea_nil))) (pg_tup rfl (pgs_cons (pg_name (i := 5) sc_told_distances.nd rfl (by first | exact .inl rfl | exact .inr rfl)) (pgs_cons (pg_name (i := 6) sc_told_distances.nd rfl (by first | exact .inl rfl | exact .inr rfl)) pgs_nil))) (es_one (es_if (eet_S (et_notN (ev_nv 6))) (es_cons (es_asg (ps_set (i := 7) sc_told_distances.nd rfl (by first | exact .inl rfl | exact .inr rfl) (ee_S (ev_call (f_least_far G) hr (by omega) L (ea_cons (ev_nv 0) (ea_cons (ev_nv 6) ea_nil))))) (fun _ _ _ h => h)) (es_cons (es_if (eet_S (et_cmp op_ge ok_cmp (ev_nv 7) (ev_nv 4) (nomark _))) (es_one (es_ret (ps_ret (ee_S (ev_tup (ea_cons ev_non (ea_cons (ev_nv 5) ea_nil))))) (fun _ _ _ h => h))) es_nil) (es_one (es_app (ps_expr (pe_bm PySem.F.plainAttrs_list PySem.F.slot_list_append PySem.F.type_list_append mt_append (pe_nv 3) (pa_cons (ee_S (ev_nv 7)) pa_nil))) (fun _ _ _ h => h))))) (es_one (es_if (eet_S (et_cmp op_lt ok_cmp (ev_nv 4) (ev_nv 2) (nomark _))) (es_cons (es_app (ps_expr (pe_bm PySem.F.plainAttrs_list PySem.F.slot_list_append PySem.F.type_list_append mt_append (pe_nv 3) (pa_cons (ee_S ev_non) pa_nil))) (fun _ _ _ h => h)) (es_one (es_asg (ps_set (i := 4) sc_told_distances.nd rfl (by first | exact .inl rfl | exact .inr rfl) (ee_S (ev_op or_add ok_add (ev_nv 4) ev_int))) (fun _ _ _ h => h)))) (es_one (es_if (eet_S (et_cmp op_gt ok_cmp (ev_nv 4) (ev_ixD hr (ev_nv 0) (ev_neg ev_int)) (nomark _))) (es_one (es_app (ps_expr (pe_bm PySem.F.plainAttrs_list PySem.F.slot_list_append PySem.F.type_list_append mt_append (pe_nv 3) (pa_cons (ee_S (ev_ixD hr (ev_nv 0) (ev_neg ev_int))) pa_nil))) (fun _ _ _ h => h))) (es_one (es_ret (ps_ret (ee_S (ev_tup (ea_cons ev_non (ea_cons (ev_nv 5) ea_nil))))) (fun _ _ _ h => h)))))))))) (fun _ _ _ _ => rd_gt rfl rfl) (fun _ _ _ h => h)) (ess_frz 3 (es_one (es_ret (ps_ret (ee_S (ev_tup (ea_cons (ev_nv 3) (ea_cons ev_non ea_nil))))) (fun _ _ _ h => h)))))))
theorem sc_fewest_things : FnScope ["sizes", "log", "most"] ["sizes", "log"] (defScope (topS 54)) := ⟨rfl, rfl, rfl, by decide +kernel, rfl, by decide +kernel, by decide +kernel⟩
def g_fewest_things : SE → SO := (sSeq (sDrop (liftS (pCall m_check_sizes (pCons (pV 0) pNil)))) (sSeq (sDrop (liftS (pCall m_check_log (pCons (pV 0) (pCons (pV 1) pNil))))) (sSeq (sForE (liftS (pRng2 (pCons (pC (.int 1)) (pCons (pOp gAdd (pC (.int 26)) (pC (.int 1))) pNil)))) (gNE 2) (sIf (liftS (pIsN (pOp gDix (pCall m_told_distances (pCons (pV 0) (pCons (pV 1) (pCons (pV 2) pNil)))) (pC (.int 1))))) (sRet false (liftS (pV 2))) SO.nx)) (sRet false (liftS (pC .non))))))
def m_fewest_things : List T → PR T := runP false 3 2 (g_fewest_things)
theorem f_fewest_things (G : Gs K mg) : Fn PP w K mg base 6 "fewest_things" (topS 54) ["sizes", "log"] (spP K w mg false (m_fewest_things)) :=
  ok_pure G.d_fewest_things sc_fewest_things fun f cdv A outer s H E O WT hr L hp => (es_cons (es_expr (ps_expr (ee_S (ev_call (f_check_sizes G) hr (by omega) L (ea_cons (ev_nv 0) ea_nil)))) (fun _ _ _ h => h)) (es_cons (es_expr (ps_expr (ee_S (ev_call (f_check_log G) hr (by omega) L (ea_cons (ev_nv 0) (ea_cons (ev_nv 1) ea_nil))))) (fun _ _ _ h => h)) (es_cons (es_forE (ps_for hp rfl (eei_p (ei_rng2 rfl G.z_range (ea_cons ev_int (ea_cons (ev_op or_add ok_add (ev_gi G.n_MOST_THINGS) ev_int) ea_nil)))) (pg_name (i := 2) sc_fewest_things.nd rfl (by first | exact .inl rfl | exact .inr rfl)) (es_one (es_if (eet_S (et_isN (ev_ixD hr (ev_call (f_told_distances G) hr (by omega) L (ea_cons (ev_nv 0) (ea_cons (ev_nv 1) (ea_cons (ev_nv 2) ea_nil)))) ev_int))) (es_one (es_ret (ps_ret (ee_S (ev_nv 2))) (fun _ _ _ h => h))) es_nil))) (fun _ _ _ _ => rd_gn) (fun _ _ _ h => h)) (es_one (es_ret (ps_ret (ee_S ev_non)) (fun _ _ _ h => h))))))
theorem sc_mark_of : FnScope ["sizes", "far", "able", "number", "size"] ["sizes", "far"] (defScope (topS 47)) := ⟨rfl, rfl, rfl, by decide +kernel, rfl, by decide +kernel, by decide +kernel⟩
def g_mark_of : SE → SO := (sSeq (sIf (liftS (pIsN (pV 1))) (sRet false (liftS (pC .non))) SO.nx) (sSeq (sAsg 2 false (liftS (pLc (pEnum (pCons (pV 0) pNil)) [3, 4] (gT2 3 4) (pB (gCmp fun i j => decide (i < j)) (pV 1) (pV 4)) (pV 3)))) (sRet false (liftS (pIf (pB gNe (pV 2) (pLst pNil)) (pOp gDix (pV 2) (pC (.int 0))) (pC .non))))))
def m_mark_of : List T → PR T := runP false 5 2 (g_mark_of)
theorem f_mark_of (G : Gs K mg) : Fn PP w K mg base 1 "mark_of" (topS 47) ["sizes", "far"] (spP K w mg false (m_mark_of)) :=
  ok_pure G.d_mark_of sc_mark_of fun f cdv A outer s H E O WT hr L hp => (es_cons (es_if (eet_S (et_isN (ev_nv 1))) (es_one (es_ret (ps_ret (ee_S ev_non)) (fun _ _ _ h => h))) es_nil) (es_cons (es_asg (k := false) (ps_setLc (i := 2) rfl sc_mark_of.nd rfl rfl (sw_true rfl rfl rfl rfl) (ei_enum rfl G.z_enumerate (ea_cons (ev_nv 0) ea_nil)) (blkOk_by (own := [("number", 3), ("size", 4)]) (by kernel_rfl)) (fun _ _ _ _ _ => (eg_t2 rfl (pg_tup rfl (pgs_cons (pg_name (i := 3) sc_mark_of.nd rfl (by first | exact .inl rfl | exact .inr rfl)) (pgs_cons (pg_name (i := 4) sc_mark_of.nd rfl (by first | exact .inl rfl | exact .inr rfl)) pgs_nil))))) (fun _ _ _ _ _ => (ets_one (et_cmp op_lt ok_cmp (ev_nv 1) (ev_nv 4) (nomark _)))) (fun _ _ _ _ _ => (ev_nv 3))) (fun _ _ _ h => rd_lc (by decide) (rd_SN (rd_EN (k := true) h)))) (es_one (es_ret (ps_ret (ee_S (ev_if (et_cmp (op_neD hr.units) ok_ne (ev_nv 2) (ev_n (ev_lst ea_nil)) (nomark _)) (ev_ixD hr (ev_nv 2) ev_int) ev_non))) (fun _ _ _ h => h)))))
theorem sc_has_log : FnScope ["row", "sizes", "log", "far"] ["row", "sizes", "log"] (defScope (topS 53)) := ⟨rfl, rfl, rfl, by decide +kernel, rfl, by decide +kernel, by decide +kernel⟩
def g_has_log : SE → SO := (sSeq (sDrop (liftS (pCall m_check_row (pCons (pV 0) pNil)))) (sSeq (sDrop (liftS (pCall m_check_sizes (pCons (pV 1) pNil)))) (sSeq (sDrop (liftS (pCall m_check_log (pCons (pV 1) (pCons (pV 2) pNil))))) (sRet false (liftS (pOfB (pB gEq (pLc (pItL (pCall m_distances_of (pCons (pV 0) pNil))) [3] (gN 3) pYes (pCall m_mark_of (pCons (pV 1) (pCons (pV 3) pNil)))) (pV 2))))))))
def m_has_log : List T → PR T := runP false 4 3 (g_has_log)
theorem f_has_log (G : Gs K mg) : Fn PP w K mg base 7 "has_log" (topS 53) ["row", "sizes", "log"] (spP K w mg false (m_has_log)) :=
  ok_pure G.d_has_log sc_has_log fun f cdv A outer s H E O WT hr L hp => (es_cons (es_expr (ps_expr (ee_S (ev_call (f_check_row G) hr (by omega) L (ea_cons (ev_nv 0) ea_nil)))) (fun _ _ _ h => h)) (es_cons (es_expr (ps_expr (ee_S (ev_call (f_check_sizes G) hr (by omega) L (ea_cons (ev_nv 1) ea_nil)))) (fun _ _ _ h => h)) (es_cons (es_expr (ps_expr (ee_S (ev_call (f_check_log G) hr (by omega) L (ea_cons (ev_nv 1) (ea_cons (ev_nv 2) ea_nil))))) (fun _ _ _ h => h)) (es_one (es_ret (ps_ret (ee_S (ev_cmp (op_eqD hr.units) ok_eq (ev_n (ev_lc rfl sc_has_log.nd (ei_lst (ev_n (ev_callN (f_distances_of G) hr (by omega) L (ea_cons (ev_nv 0) ea_nil)))) (blkOk_by (own := [("far", 3)]) (by kernel_rfl)) (fun _ _ _ _ _ => (eg_name (pg_name (i := 3) sc_has_log.nd rfl (by first | exact .inl rfl | exact .inr rfl)))) (fun _ _ _ _ _ => ets_nil) (fun _ _ _ _ _ => (ev_call (f_mark_of G) hr (by omega) lets0 (ea_cons (ev_nv 1) (ea_cons (ev_nv 3) ea_nil)))))) (ev_nv 2) (nomark _)))) (fun _ _ _ h => h))))))
theorem sc_hits_by : FnScope ["log", "number", "ask", "mark"] ["log", "number"] (defScope (topS 55)) := ⟨rfl, rfl, rfl, by decide +kernel, rfl, by decide +kernel, by decide +kernel⟩
def g_hits_by : SE → SO := (sRet true (liftS (pLc (pEnum (pCons (pV 0) pNil)) [2, 3] (gT2 2 3) (pAnd (pNotN (pV 3)) (pB (gCmp fun i j => decide (i ≤ j)) (pV 3) (pV 1))) (pV 2))))
def m_hits_by : List T → PR T := runP true 4 2 (g_hits_by)
theorem f_hits_by (G : Gs K mg) : Fn PP w K mg base 1 "hits_by" (topS 55) ["log", "number"] (spP K w mg true (m_hits_by)) :=
  ok_pure G.d_hits_by sc_hits_by fun f cdv A outer s H E O WT hr L hp => (es_one (es_ret (ps_ret (ee_N (ev_lc rfl sc_hits_by.nd (ei_enum rfl G.z_enumerate (ea_cons (ev_nv 0) ea_nil)) (blkOk_by (own := [("ask", 2), ("mark", 3)]) (by kernel_rfl)) (fun _ _ _ _ _ => (eg_t2 rfl (pg_tup rfl (pgs_cons (pg_name (i := 2) sc_hits_by.nd rfl (by first | exact .inl rfl | exact .inr rfl)) (pgs_cons (pg_name (i := 3) sc_hits_by.nd rfl (by first | exact .inl rfl | exact .inr rfl)) pgs_nil))))) (fun _ _ _ _ _ => (ets_one (ew_and (et_notN (ev_nv 3)) (ew_and1 (et_cmp op_le ok_cmp (ev_nv 3) (ev_nv 1) (nomark _)))).pt)) (fun _ _ _ _ _ => (ev_nv 2))))) (fun _ _ _ h => h)))
theorem sc_log_hits : FnScope ["sizes", "log", "number"] ["sizes", "log", "number"] (defScope (topS 56)) := ⟨rfl, rfl, rfl, by decide +kernel, rfl, by decide +kernel, by decide +kernel⟩
def g_log_hits : SE → SO := (sSeq (sDrop (liftS (pCall m_check_sizes (pCons (pV 0) pNil)))) (sSeq (sDrop (liftS (pCall m_check_log (pCons (pV 0) (pCons (pV 1) pNil))))) (sSeq (sIf (liftS (pNot (pTru (pCall m_is_below (pCons (pV 2) (pCons (pF gLenA (pCons (pV 0) pNil)) pNil)))))) sNever SO.nx) (sRet true (liftS (pCall m_hits_by (pCons (pV 1) (pCons (pV 2) pNil))))))))
def m_log_hits : List T → PR T := runP true 3 3 (g_log_hits)
theorem f_log_hits (G : Gs K mg) : Fn PP w K mg base 6 "log_hits" (topS 56) ["sizes", "log", "number"] (spP K w mg true (m_log_hits)) :=
  ok_pure G.d_log_hits sc_log_hits fun f cdv A outer s H E O WT hr L hp => (es_cons (es_expr (ps_expr (ee_S (ev_call (f_check_sizes G) hr (by omega) L (ea_cons (ev_nv 0) ea_nil)))) (fun _ _ _ h => h)) (es_cons (es_expr (ps_expr (ee_S (ev_call (f_check_log G) hr (by omega) L (ea_cons (ev_nv 0) (ea_cons (ev_nv 1) ea_nil))))) (fun _ _ _ h => h)) (es_cons (es_if (eet_S (et_not (et_tru (ev_call (f_is_below G) hr (by omega) L (ea_cons (ev_nv 2) (ea_cons (ev_b call_lenA ok_lenA G.z_len rfl (ea_cons (ev_nv 0) ea_nil)) ea_nil)))))) (es_one es_never) es_nil) (es_one (es_ret (ps_ret (ee_N (ev_callN (f_hits_by G) hr (by omega) L (ea_cons (ev_nv 1) (ea_cons (ev_nv 2) ea_nil))))) (fun _ _ _ h => h))))))
theorem sc_log_of : FnScope ["row", "sizes", "far"] ["row", "sizes"] (defScope (topS 48)) := ⟨rfl, rfl, rfl, by decide +kernel, rfl, by decide +kernel, by decide +kernel⟩
def g_log_of : SE → SO := (sSeq (sDrop (liftS (pCall m_check_row (pCons (pV 0) pNil)))) (sSeq (sDrop (liftS (pCall m_check_sizes (pCons (pV 1) pNil)))) (sRet true (liftS (pLc (pItL (pCall m_distances_of (pCons (pV 0) pNil))) [2] (gN 2) pYes (pCall m_mark_of (pCons (pV 1) (pCons (pV 2) pNil))))))))
def m_log_of : List T → PR T := runP true 3 2 (g_log_of)
theorem f_log_of (G : Gs K mg) : Fn PP w K mg base 7 "log_of" (topS 48) ["row", "sizes"] (spP K w mg true (m_log_of)) :=
  ok_pure G.d_log_of sc_log_of fun f cdv A outer s H E O WT hr L hp => (es_cons (es_expr (ps_expr (ee_S (ev_call (f_check_row G) hr (by omega) L (ea_cons (ev_nv 0) ea_nil)))) (fun _ _ _ h => h)) (es_cons (es_expr (ps_expr (ee_S (ev_call (f_check_sizes G) hr (by omega) L (ea_cons (ev_nv 1) ea_nil)))) (fun _ _ _ h => h)) (es_one (es_ret (ps_ret (ee_N (ev_lc rfl sc_log_of.nd (ei_lst (ev_n (ev_callN (f_distances_of G) hr (by omega) L (ea_cons (ev_nv 0) ea_nil)))) (blkOk_by (own := [("far", 2)]) (by kernel_rfl)) (fun _ _ _ _ _ => (eg_name (pg_name (i := 2) sc_log_of.nd rfl (by first | exact .inl rfl | exact .inr rfl)))) (fun _ _ _ _ _ => ets_nil) (fun _ _ _ _ _ => (ev_call (f_mark_of G) hr (by omega) lets0 (ea_cons (ev_nv 1) (ea_cons (ev_nv 2) ea_nil))))))) (fun _ _ _ h => h)))))
theorem sc_are_pins : FnScope ["places", "value", "thing", "at"] ["places", "value"] (defScope (topS 58)) := ⟨rfl, rfl, rfl, by decide +kernel, rfl, by decide +kernel, by decide +kernel⟩
def g_are_pins : SE → SO := (sSeq (sIf (liftS (pOr (pNot (pTru (pF gIsi (pCons (pV 1) (pCons (pC (.ty "list")) pNil))))) (pOr (pB (gCmp fun i j => decide (j ≤ i)) (pF gLenA (pCons (pV 1) pNil)) (pV 0)) (pB gNe (pLc (pItL (pV 1)) [2] (gN 2) (pNot (pTru (pCall m_is_thing (pCons (pV 2) pNil)))) (pV 2)) (pLst pNil))))) (sRet false (liftS (pC (.bl false)))) SO.nx) (sRet false (liftS (pOfB (pB gEq (pLc (pRng2 (pCons (pC (.int 1)) (pCons (pF gLenA (pCons (pV 1) pNil)) pNil))) [3] (gN 3) (pB (gCmp fun i j => decide (j ≤ i)) (pOp gDix (pV 1) (pOp gSub (pV 3) (pC (.int 1)))) (pOp gDix (pV 1) (pV 3))) (pV 3)) (pLst pNil))))))
def m_are_pins : List T → PR T := runP false 4 2 (g_are_pins)
theorem f_are_pins (G : Gs K mg) : Fn PP w K mg base 5 "are_pins" (topS 58) ["places", "value"] (spP K w mg false (m_are_pins)) :=
  ok_pure G.d_are_pins sc_are_pins fun f cdv A outer s H E O WT hr L hp => (es_cons (es_if (eet_S (ew_or (et_not (et_tru (ev_b call_isi ok_isi G.z_isinstance rfl (ea_cons (ev_nv 1) (ea_cons (ev_ty G.z_list rfl) ea_nil))))) (ew_or (et_cmp op_ge ok_cmp (ev_b call_lenA ok_lenA G.z_len rfl (ea_cons (ev_nv 1) ea_nil)) (ev_nv 0) (nomark _)) (ew_or1 (et_cmp (op_neD hr.units) ok_ne (ev_n (ev_lc rfl sc_are_pins.nd (ei_lst (ev_nv 1)) (blkOk_by (own := [("thing", 2)]) (by kernel_rfl)) (fun _ _ _ _ _ => (eg_name (pg_name (i := 2) sc_are_pins.nd rfl (by first | exact .inl rfl | exact .inr rfl)))) (fun _ _ _ _ _ => (ets_one (et_not (et_tru (ev_call (f_is_thing G) hr (by omega) lets0 (ea_cons (ev_nv 2) ea_nil)))))) (fun _ _ _ _ _ => (ev_nv 2)))) (ev_n (ev_lst ea_nil)) (nomark _))))).pt) (es_one (es_ret (ps_ret (ee_S ev_bl)) (fun _ _ _ h => h))) es_nil) (es_one (es_ret (ps_ret (ee_S (ev_cmp (op_eqD hr.units) ok_eq (ev_n (ev_lc rfl sc_are_pins.nd (ei_rng2 rfl G.z_range (ea_cons ev_int (ea_cons (ev_b call_lenA ok_lenA G.z_len rfl (ea_cons (ev_nv 1) ea_nil)) ea_nil))) (blkOk_by (own := [("at", 3)]) (by kernel_rfl)) (fun _ _ _ _ _ => (eg_name (pg_name (i := 3) sc_are_pins.nd rfl (by first | exact .inl rfl | exact .inr rfl)))) (fun _ _ _ _ _ => (ets_one (et_cmp op_ge ok_cmp (ev_ixD hr (ev_nv 1) (ev_op op_sub ok_sub (ev_nv 3) ev_int)) (ev_ixD hr (ev_nv 1) (ev_nv 3)) (nomark _)))) (fun _ _ _ _ _ => (ev_nv 3)))) (ev_n (ev_lst ea_nil)) (nomark _)))) (fun _ _ _ h => h))))
theorem sc_check_pins : FnScope ["places", "pins"] ["places", "pins"] (defScope (topS 59)) := ⟨rfl, rfl, rfl, by decide +kernel, rfl, by decide +kernel, by decide +kernel⟩
def g_check_pins : SE → SO := (sIf (liftS (pNot (pTru (pCall m_are_pins (pCons (pV 0) (pCons (pV 1) pNil)))))) sNever SO.nx)
def m_check_pins : List T → PR T := runP false 2 2 (g_check_pins)
theorem f_check_pins (G : Gs K mg) : Fn PP w K mg base 6 "check_pins" (topS 59) ["places", "pins"] (spP K w mg false (m_check_pins)) :=
  ok_pure G.d_check_pins sc_check_pins fun f cdv A outer s H E O WT hr L hp => (es_one (es_if (eet_S (et_not (et_tru (ev_call (f_are_pins G) hr (by omega) L (ea_cons (ev_nv 0) (ea_cons (ev_nv 1) ea_nil)))))) (es_one es_never) es_nil))
theorem sc_check_places : FnScope ["places"] ["places"] (defScope (topS 20)) := ⟨rfl, rfl, rfl, by decide +kernel, rfl, by decide +kernel, by decide +kernel⟩
def g_check_places : SE → SO := (sIf (liftS (pNot (pTru (pCall m_is_places (pCons (pV 0) pNil))))) sNever SO.nx)
def m_check_places : List T → PR T := runP false 1 1 (g_check_places)
theorem f_check_places (G : Gs K mg) : Fn PP w K mg base 3 "check_places" (topS 20) ["places"] (spP K w mg false (m_check_places)) :=
  ok_pure G.d_check_places sc_check_places fun f cdv A outer s H E O WT hr L hp => (es_one (es_if (eet_S (et_not (et_tru (ev_call (f_is_places G) hr (by omega) L (ea_cons (ev_nv 0) ea_nil))))) (es_one es_never) es_nil))
theorem sc_pinned_misses : FnScope ["row", "places", "pins", "others", "ask", "thing", "told", "missed", "at", "firsts"] ["row", "places", "pins"] (defScope (topS 60)) := ⟨rfl, rfl, rfl, by decide +kernel, rfl, by decide +kernel, by decide +kernel⟩
def g_pinned_misses : SE → SO := (sSeq (sAsg 3 false (liftS (pLc (pEnum (pCons (pV 0) pNil)) [4, 5] (gT2 4 5) (pB gNinA (pV 5) (pV 2)) (pV 4)))) (sSeq (sAsg 6 false (liftS (pCall m_distances_of (pCons (pLc (pItL (pV 3)) [4] (gN 4) pYes (pOp gDix (pV 0) (pV 4))) pNil)))) (sSeq (sAsg 7 false (liftS (pLc (pEnum (pCons (pV 3) pNil)) [8, 4] (gT2 8 4) (pOr (pIsN (pOp gDix (pV 6) (pV 8))) (pB (gCmp fun i j => decide (j ≤ i)) (pOp gDix (pV 6) (pV 8)) (pOp gSub (pV 1) (pF gLenA (pCons (pV 2) pNil))))) (pV 4)))) (sSeq (sAsg 9 false (liftS (pLc (pItL (pV 2)) [5] (gN 5) (pB gInA (pV 5) (pV 0)) (pLm gIndex (pV 0) (pCons (pV 5) pNil))))) (sRet true (liftS (pF gSortedA (pCons (pOp gAdd (pV 7) (pV 9)) pNil))))))))
def m_pinned_misses : List T → PR T := runP true 10 3 (g_pinned_misses)
theorem f_pinned_misses (G : Gs K mg) : Fn PP w K mg base 2 "pinned_misses" (topS 60) ["row", "places", "pins"] (spP K w mg true (m_pinned_misses)) :=
  ok_pure G.d_pinned_misses sc_pinned_misses fun f cdv A outer s H E O WT hr L hp => (es_cons (es_asg (k := false) (ps_setLc (i := 3) rfl sc_pinned_misses.nd rfl rfl (sw_true rfl rfl rfl rfl) (ei_enum rfl G.z_enumerate (ea_cons (ev_nv 0) ea_nil)) (blkOk_by (own := [("ask", 4), ("thing", 5)]) (by kernel_rfl)) (fun _ _ _ _ _ => (eg_t2 rfl (pg_tup rfl (pgs_cons (pg_name (i := 4) sc_pinned_misses.nd rfl (by first | exact .inl rfl | exact .inr rfl)) (pgs_cons (pg_name (i := 5) sc_pinned_misses.nd rfl (by first | exact .inl rfl | exact .inr rfl)) pgs_nil))))) (fun _ _ _ _ _ => (ets_one (et_cmp or_ninA ok_ninA (ev_nv 5) (ev_nv 2) rfl))) (fun _ _ _ _ _ => (ev_nv 4))) (fun _ _ _ h => rd_lc (by decide) (rd_SN (rd_EN (k := true) h)))) (es_cons (es_asg (ps_set (i := 6) sc_pinned_misses.nd rfl (by first | exact .inl rfl | exact .inr rfl) (ee_S (ev_n (ev_callN (f_distances_of G) hr (by omega) L (ea_cons (ev_n (ev_lc rfl sc_pinned_misses.nd (ei_lst (ev_nv 3)) (blkOk_by (own := [("ask", 4)]) (by kernel_rfl)) (fun _ _ _ _ _ => (eg_name (pg_name (i := 4) sc_pinned_misses.nd rfl (by first | exact .inl rfl | exact .inr rfl)))) (fun _ _ _ _ _ => ets_nil) (fun _ _ _ _ _ => (ev_ixD hr (ev_nv 0) (ev_nv 4))))) ea_nil))))) (fun _ _ _ h => h)) (es_cons (es_asg (k := false) (ps_setLc (i := 7) rfl sc_pinned_misses.nd rfl rfl (sw_true rfl rfl rfl rfl) (ei_enum rfl G.z_enumerate (ea_cons (ev_nv 3) ea_nil)) (blkOk_by (own := [("at", 8), ("ask", 4)]) (by kernel_rfl)) (fun _ _ _ _ _ => (eg_t2 rfl (pg_tup rfl (pgs_cons (pg_name (i := 8) sc_pinned_misses.nd rfl (by first | exact .inl rfl | exact .inr rfl)) (pgs_cons (pg_name (i := 4) sc_pinned_misses.nd rfl (by first | exact .inl rfl | exact .inr rfl)) pgs_nil))))) (fun _ _ _ _ _ => (ets_one (ew_or (et_isN (ev_ixD hr (ev_nv 6) (ev_nv 8))) (ew_or1 (et_cmp op_ge ok_cmp (ev_ixD hr (ev_nv 6) (ev_nv 8)) (ev_op op_sub ok_sub (ev_nv 1) (ev_b call_lenA ok_lenA G.z_len rfl (ea_cons (ev_nv 2) ea_nil))) (nomark _)))).pt)) (fun _ _ _ _ _ => (ev_nv 4))) (fun _ _ _ h => rd_lc (by decide) (rd_SN (rd_EN (k := true) h)))) (es_cons (es_asg (k := false) (ps_setLc (i := 9) rfl sc_pinned_misses.nd rfl rfl (sw_true rfl rfl rfl rfl) (ei_lst (ev_nv 2)) (blkOk_by (own := [("thing", 5)]) (by kernel_rfl)) (fun _ _ _ _ _ => (eg_name (pg_name (i := 5) sc_pinned_misses.nd rfl (by first | exact .inl rfl | exact .inr rfl)))) (fun _ _ _ _ _ => (ets_one (et_cmp or_inA ok_inA (ev_nv 5) (ev_nv 0) rfl))) (fun _ _ _ _ _ => (PEm (pe_bm PySem.F.plainAttrs_list PySem.F.slot_list_index PySem.F.type_list_index mt_index (ev_nv 0) (ea_cons (ev_nv 5) ea_nil)) fun _ _ _ => rd_lm rfl ok_index))) (fun _ _ _ h => rd_lc (by decide) (rd_SN (rd_EN (k := true) h)))) (es_one (es_ret (ps_ret (ee_N (ev_bN (call_sortedA rfl) new_sortedA G.z_sorted rfl (ea_cons (ev_op or_add ok_add (ev_nv 7) (ev_nv 9)) ea_nil)))) (fun _ _ _ h => h)))))))
theorem sc_pinned_fetches : FnScope ["row", "places", "pins"] ["row", "places", "pins"] (defScope (topS 61)) := ⟨rfl, rfl, rfl, by decide +kernel, rfl, by decide +kernel, by decide +kernel⟩
def g_pinned_fetches : SE → SO := (sSeq (sDrop (liftS (pCall m_check_row (pCons (pV 0) pNil)))) (sSeq (sDrop (liftS (pCall m_check_places (pCons (pV 1) pNil)))) (sSeq (sDrop (liftS (pCall m_check_pins (pCons (pV 1) (pCons (pV 2) pNil))))) (sRet true (liftS (pCall m_pinned_misses (pCons (pV 0) (pCons (pV 1) (pCons (pV 2) pNil)))))))))
def m_pinned_fetches : List T → PR T := runP true 3 3 (g_pinned_fetches)
theorem f_pinned_fetches (G : Gs K mg) : Fn PP w K mg base 7 "pinned_fetches" (topS 61) ["row", "places", "pins"] (spP K w mg true (m_pinned_fetches)) :=
  ok_pure G.d_pinned_fetches sc_pinned_fetches fun f cdv A outer s H E O WT hr L hp => (es_cons (es_expr (ps_expr (ee_S (ev_call (f_check_row G) hr (by omega) L (ea_cons (ev_nv 0) ea_nil)))) (fun _ _ _ h => h)) (es_cons (es_expr (ps_expr (ee_S (ev_call (f_check_places G) hr (by omega) L (ea_cons (ev_nv 1) ea_nil)))) (fun _ _ _ h => h)) (es_cons (es_expr (ps_expr (ee_S (ev_call (f_check_pins G) hr (by omega) L (ea_cons (ev_nv 1) (ea_cons (ev_nv 2) ea_nil))))) (fun _ _ _ h => h)) (es_one (es_ret (ps_ret (ee_N (ev_callN (f_pinned_misses G) hr (by omega) L (ea_cons (ev_nv 0) (ea_cons (ev_nv 1) (ea_cons (ev_nv 2) ea_nil)))))) (fun _ _ _ h => h))))))
theorem sc_are_asks_of : FnScope ["row", "value", "ask", "at"] ["row", "value"] (defScope (topS 29)) := ⟨rfl, rfl, rfl, by decide +kernel, rfl, by decide +kernel, by decide +kernel⟩
def g_are_asks_of : SE → SO := (sSeq (sIf (liftS (pOr (pNot (pTru (pF gIsi (pCons (pV 1) (pCons (pC (.ty "list")) pNil))))) (pB gNe (pLc (pItL (pV 1)) [2] (gN 2) (pNot (pTru (pCall m_is_below (pCons (pV 2) (pCons (pF gLenA (pCons (pV 0) pNil)) pNil))))) (pV 2)) (pLst pNil)))) (sRet false (liftS (pC (.bl false)))) SO.nx) (sRet false (liftS (pOfB (pB gEq (pLc (pRng2 (pCons (pC (.int 1)) (pCons (pF gLenA (pCons (pV 1) pNil)) pNil))) [3] (gN 3) (pB (gCmp fun i j => decide (j ≤ i)) (pOp gDix (pV 1) (pOp gSub (pV 3) (pC (.int 1)))) (pOp gDix (pV 1) (pV 3))) (pV 3)) (pLst pNil))))))
def m_are_asks_of : List T → PR T := runP false 4 2 (g_are_asks_of)
theorem f_are_asks_of (G : Gs K mg) : Fn PP w K mg base 4 "are_asks_of" (topS 29) ["row", "value"] (spP K w mg false (m_are_asks_of)) :=
  ok_pure G.d_are_asks_of sc_are_asks_of fun f cdv A outer s H E O WT hr L hp => (es_cons (es_if (eet_S (ew_or (et_not (et_tru (ev_b call_isi ok_isi G.z_isinstance rfl (ea_cons (ev_nv 1) (ea_cons (ev_ty G.z_list rfl) ea_nil))))) (ew_or1 (et_cmp (op_neD hr.units) ok_ne (ev_n (ev_lc rfl sc_are_asks_of.nd (ei_lst (ev_nv 1)) (blkOk_by (own := [("ask", 2)]) (by kernel_rfl)) (fun _ _ _ _ _ => (eg_name (pg_name (i := 2) sc_are_asks_of.nd rfl (by first | exact .inl rfl | exact .inr rfl)))) (fun _ _ _ _ _ => (ets_one (et_not (et_tru (ev_call (f_is_below G) hr (by omega) lets0 (ea_cons (ev_nv 2) (ea_cons (ev_b call_lenA ok_lenA G.z_len rfl (ea_cons (ev_nv 0) ea_nil)) ea_nil))))))) (fun _ _ _ _ _ => (ev_nv 2)))) (ev_n (ev_lst ea_nil)) (nomark _)))).pt) (es_one (es_ret (ps_ret (ee_S ev_bl)) (fun _ _ _ h => h))) es_nil) (es_one (es_ret (ps_ret (ee_S (ev_cmp (op_eqD hr.units) ok_eq (ev_n (ev_lc rfl sc_are_asks_of.nd (ei_rng2 rfl G.z_range (ea_cons ev_int (ea_cons (ev_b call_lenA ok_lenA G.z_len rfl (ea_cons (ev_nv 1) ea_nil)) ea_nil))) (blkOk_by (own := [("at", 3)]) (by kernel_rfl)) (fun _ _ _ _ _ => (eg_name (pg_name (i := 3) sc_are_asks_of.nd rfl (by first | exact .inl rfl | exact .inr rfl)))) (fun _ _ _ _ _ => (ets_one (et_cmp op_ge ok_cmp (ev_ixD hr (ev_nv 1) (ev_op op_sub ok_sub (ev_nv 3) ev_int)) (ev_ixD hr (ev_nv 1) (ev_nv 3)) (nomark _)))) (fun _ _ _ _ _ => (ev_nv 3)))) (ev_n (ev_lst ea_nil)) (nomark _)))) (fun _ _ _ h => h))))
theorem sc_check_seen : FnScope ["row", "hits", "fetched", "ask"] ["row", "hits", "fetched"] (defScope (topS 30)) := ⟨rfl, rfl, rfl, by decide +kernel, rfl, by decide +kernel, by decide +kernel⟩
def g_check_seen : SE → SO := (sSeq (sDrop (liftS (pCall m_check_row (pCons (pV 0) pNil)))) (sSeq (sIf (liftS (pNot (pTru (pCall m_are_asks_of (pCons (pV 0) (pCons (pV 1) pNil)))))) sNever SO.nx) (sIf (liftS (pOr (pNot (pTru (pCall m_are_asks_of (pCons (pV 0) (pCons (pV 2) pNil))))) (pB gNe (pLc (pItL (pV 2)) [3] (gN 3) (pB gInA (pV 3) (pV 1)) (pV 3)) (pLst pNil)))) sNever SO.nx)))
def m_check_seen : List T → PR T := runP false 4 3 (g_check_seen)
theorem f_check_seen (G : Gs K mg) : Fn PP w K mg base 7 "check_seen" (topS 30) ["row", "hits", "fetched"] (spP K w mg false (m_check_seen)) :=
  ok_pure G.d_check_seen sc_check_seen fun f cdv A outer s H E O WT hr L hp => (es_cons (es_expr (ps_expr (ee_S (ev_call (f_check_row G) hr (by omega) L (ea_cons (ev_nv 0) ea_nil)))) (fun _ _ _ h => h)) (es_cons (es_if (eet_S (et_not (et_tru (ev_call (f_are_asks_of G) hr (by omega) L (ea_cons (ev_nv 0) (ea_cons (ev_nv 1) ea_nil)))))) (es_one es_never) es_nil) (es_one (es_if (eet_S (ew_or (et_not (et_tru (ev_call (f_are_asks_of G) hr (by omega) L (ea_cons (ev_nv 0) (ea_cons (ev_nv 2) ea_nil))))) (ew_or1 (et_cmp (op_neD hr.units) ok_ne (ev_n (ev_lc rfl sc_check_seen.nd (ei_lst (ev_nv 2)) (blkOk_by (own := [("ask", 3)]) (by kernel_rfl)) (fun _ _ _ _ _ => (eg_name (pg_name (i := 3) sc_check_seen.nd rfl (by first | exact .inl rfl | exact .inr rfl)))) (fun _ _ _ _ _ => (ets_one (et_cmp or_inA ok_inA (ev_nv 3) (ev_nv 1) rfl))) (fun _ _ _ _ _ => (ev_nv 3)))) (ev_n (ev_lst ea_nil)) (nomark _)))).pt) (es_one es_never) es_nil))))
theorem sc_ends_of : FnScope ["row", "hits", "fetched", "told", "least", "ask", "greatest"] ["row", "hits", "fetched"] (defScope (topS 32)) := ⟨rfl, rfl, rfl, by decide +kernel, rfl, by decide +kernel, by decide +kernel⟩
def g_ends_of : SE → SO := (sSeq (sAsg 3 false (liftS (pCall m_distances_of (pCons (pV 0) pNil)))) (sSeq (sAsg 4 false (liftS (pOp gAdd (pC (.int 1)) (pF gMax1 (pCons (pOp gCat (pLc (pItL (pV 1)) [5] (gN 5) pYes (pOp gDix (pV 3) (pV 5))) (pLst (pCons (pC (.int 0)) pNil))) pNil))))) (sSeq (sAsg 6 false (liftS (pF gMin1 (pCons (pOp gCat (pLc (pItL (pV 2)) [5] (gN 5) (pNotN (pOp gDix (pV 3) (pV 5))) (pOp gDix (pV 3) (pV 5))) (pLst (pCons (pC (.int 26)) pNil))) pNil)))) (sRet false (liftS (pTup (pCons (pV 4) (pCons (pV 6) pNil))))))))
def m_ends_of : List T → PR T := runP false 7 3 (g_ends_of)
theorem f_ends_of (G : Gs K mg) : Fn PP w K mg base 2 "ends_of" (topS 32) ["row", "hits", "fetched"] (spP K w mg false (m_ends_of)) :=
  ok_pure G.d_ends_of sc_ends_of fun f cdv A outer s H E O WT hr L hp => (es_cons (es_asg (ps_set (i := 3) sc_ends_of.nd rfl (by first | exact .inl rfl | exact .inr rfl) (ee_S (ev_n (ev_callN (f_distances_of G) hr (by omega) L (ea_cons (ev_nv 0) ea_nil))))) (fun _ _ _ h => h)) (es_cons (es_asg (ps_set (i := 4) sc_ends_of.nd rfl (by first | exact .inl rfl | exact .inr rfl) (ee_S (ev_op or_add ok_add ev_int (ev_b (cr_max rfl) ok_max1 G.z_max rfl (ea_cons (ev_n (ev_opN op_cat new_cat (ev_n (ev_lc rfl sc_ends_of.nd (ei_lst (ev_nv 1)) (blkOk_by (own := [("ask", 5)]) (by kernel_rfl)) (fun _ _ _ _ _ => (eg_name (pg_name (i := 5) sc_ends_of.nd rfl (by first | exact .inl rfl | exact .inr rfl)))) (fun _ _ _ _ _ => ets_nil) (fun _ _ _ _ _ => (ev_ixD hr (ev_nv 3) (ev_nv 5))))) (ev_n (ev_lst (ea_cons ev_int ea_nil))))) ea_nil))))) (fun _ _ _ h => h)) (es_cons (es_asg (ps_set (i := 6) sc_ends_of.nd rfl (by first | exact .inl rfl | exact .inr rfl) (ee_S (ev_b (cr_min rfl) ok_min1 G.z_min rfl (ea_cons (ev_n (ev_opN op_cat new_cat (ev_n (ev_lc rfl sc_ends_of.nd (ei_lst (ev_nv 2)) (blkOk_by (own := [("ask", 5)]) (by kernel_rfl)) (fun _ _ _ _ _ => (eg_name (pg_name (i := 5) sc_ends_of.nd rfl (by first | exact .inl rfl | exact .inr rfl)))) (fun _ _ _ _ _ => (ets_one (et_notN (ev_ixD hr (ev_nv 3) (ev_nv 5))))) (fun _ _ _ _ _ => (ev_ixD hr (ev_nv 3) (ev_nv 5))))) (ev_n (ev_lst (ea_cons (ev_gi G.n_MOST_THINGS) ea_nil))))) ea_nil)))) (fun _ _ _ h => h)) (es_one (es_ret (ps_ret (ee_S (ev_tup (ea_cons (ev_nv 4) (ea_cons (ev_nv 6) ea_nil))))) (fun _ _ _ h => h))))))
theorem sc_farthest_hit : FnScope ["row", "hits", "told", "ask"] ["row", "hits"] (defScope (topS 33)) := ⟨rfl, rfl, rfl, by decide +kernel, rfl, by decide +kernel, by decide +kernel⟩
def g_farthest_hit : SE → SO := (sSeq (sAsg 2 false (liftS (pCall m_distances_of (pCons (pV 0) pNil)))) (sRet false (liftS (pOp gDix (pF gMin1 (pCons (pLc (pItL (pV 1)) [3] (gN 3) pYes (pTup (pCons (pU gNeg (pOp gDix (pV 2) (pV 3))) (pCons (pV 3) pNil)))) pNil)) (pC (.int 1))))))
def m_farthest_hit : List T → PR T := runP false 4 2 (g_farthest_hit)
theorem f_farthest_hit (G : Gs K mg) : Fn PP w K mg base 2 "farthest_hit" (topS 33) ["row", "hits"] (spP K w mg false (m_farthest_hit)) :=
  ok_pure G.d_farthest_hit sc_farthest_hit fun f cdv A outer s H E O WT hr L hp => (es_cons (es_asg (ps_set (i := 2) sc_farthest_hit.nd rfl (by first | exact .inl rfl | exact .inr rfl) (ee_S (ev_n (ev_callN (f_distances_of G) hr (by omega) L (ea_cons (ev_nv 0) ea_nil))))) (fun _ _ _ h => h)) (es_one (es_ret (ps_ret (ee_S (ev_ixD hr (ev_b (cr_min rfl) ok_min1 G.z_min rfl (ea_cons (ev_n (ev_lc rfl sc_farthest_hit.nd (ei_lst (ev_nv 1)) (blkOk_by (own := [("ask", 3)]) (by kernel_rfl)) (fun _ _ _ _ _ => (eg_name (pg_name (i := 3) sc_farthest_hit.nd rfl (by first | exact .inl rfl | exact .inr rfl)))) (fun _ _ _ _ _ => ets_nil) (fun _ _ _ _ _ => (ev_tup (ea_cons (ev_neg (ev_ixD hr (ev_nv 2) (ev_nv 3))) (ea_cons (ev_nv 3) ea_nil)))))) ea_nil)) ev_int))) (fun _ _ _ h => h))))
theorem sc_firsts_among : FnScope ["row", "hits", "told", "able", "ask"] ["row", "hits"] (defScope (topS 31)) := ⟨rfl, rfl, rfl, by decide +kernel, rfl, by decide +kernel, by decide +kernel⟩
def g_firsts_among : SE → SO := (sSeq (sAsg 2 false (liftS (pCall m_distances_of (pCons (pV 0) pNil)))) (sSeq (sAsg 3 false (liftS (pLc (pItL (pV 1)) [4] (gN 4) (pIsN (pOp gDix (pV 2) (pV 4))) (pV 4)))) (sRet false (liftS (pIf (pB gNe (pV 3) (pLst pNil)) (pOp gDix (pV 3) (pC (.int 0))) (pC .non))))))
def m_firsts_among : List T → PR T := runP false 5 2 (g_firsts_among)
theorem f_firsts_among (G : Gs K mg) : Fn PP w K mg base 2 "firsts_among" (topS 31) ["row", "hits"] (spP K w mg false (m_firsts_among)) :=
  ok_pure G.d_firsts_among sc_firsts_among fun f cdv A outer s H E O WT hr L hp => (es_cons (es_asg (ps_set (i := 2) sc_firsts_among.nd rfl (by first | exact .inl rfl | exact .inr rfl) (ee_S (ev_n (ev_callN (f_distances_of G) hr (by omega) L (ea_cons (ev_nv 0) ea_nil))))) (fun _ _ _ h => h)) (es_cons (es_asg (k := false) (ps_setLc (i := 3) rfl sc_firsts_among.nd rfl rfl (sw_true rfl rfl rfl rfl) (ei_lst (ev_nv 1)) (blkOk_by (own := [("ask", 4)]) (by kernel_rfl)) (fun _ _ _ _ _ => (eg_name (pg_name (i := 4) sc_firsts_among.nd rfl (by first | exact .inl rfl | exact .inr rfl)))) (fun _ _ _ _ _ => (ets_one (et_isN (ev_ixD hr (ev_nv 2) (ev_nv 4))))) (fun _ _ _ _ _ => (ev_nv 4))) (fun _ _ _ h => rd_lc (by decide) (rd_SN (rd_EN (k := true) h)))) (es_one (es_ret (ps_ret (ee_S (ev_if (et_cmp (op_neD hr.units) ok_ne (ev_nv 3) (ev_n (ev_lst ea_nil)) (nomark _)) (ev_ixD hr (ev_nv 3) ev_int) ev_non))) (fun _ _ _ h => h)))))
theorem sc_nearest_fetch : FnScope ["row", "fetched", "told", "ask"] ["row", "fetched"] (defScope (topS 34)) := ⟨rfl, rfl, rfl, by decide +kernel, rfl, by decide +kernel, by decide +kernel⟩
def g_nearest_fetch : SE → SO := (sSeq (sAsg 2 false (liftS (pCall m_distances_of (pCons (pV 0) pNil)))) (sRet false (liftS (pOp gDix (pF gMin1 (pCons (pLc (pItL (pV 1)) [3] (gN 3) (pNotN (pOp gDix (pV 2) (pV 3))) (pTup (pCons (pOp gDix (pV 2) (pV 3)) (pCons (pV 3) pNil)))) pNil)) (pC (.int 1))))))
def m_nearest_fetch : List T → PR T := runP false 4 2 (g_nearest_fetch)
theorem f_nearest_fetch (G : Gs K mg) : Fn PP w K mg base 2 "nearest_fetch" (topS 34) ["row", "fetched"] (spP K w mg false (m_nearest_fetch)) :=
  ok_pure G.d_nearest_fetch sc_nearest_fetch fun f cdv A outer s H E O WT hr L hp => (es_cons (es_asg (ps_set (i := 2) sc_nearest_fetch.nd rfl (by first | exact .inl rfl | exact .inr rfl) (ee_S (ev_n (ev_callN (f_distances_of G) hr (by omega) L (ea_cons (ev_nv 0) ea_nil))))) (fun _ _ _ h => h)) (es_one (es_ret (ps_ret (ee_S (ev_ixD hr (ev_b (cr_min rfl) ok_min1 G.z_min rfl (ea_cons (ev_n (ev_lc rfl sc_nearest_fetch.nd (ei_lst (ev_nv 1)) (blkOk_by (own := [("ask", 3)]) (by kernel_rfl)) (fun _ _ _ _ _ => (eg_name (pg_name (i := 3) sc_nearest_fetch.nd rfl (by first | exact .inl rfl | exact .inr rfl)))) (fun _ _ _ _ _ => (ets_one (et_notN (ev_ixD hr (ev_nv 2) (ev_nv 3))))) (fun _ _ _ _ _ => (ev_tup (ea_cons (ev_ixD hr (ev_nv 2) (ev_nv 3)) (ea_cons (ev_nv 3) ea_nil)))))) ea_nil)) ev_int))) (fun _ _ _ h => h))))
theorem sc_places_or_asks : FnScope ["row", "hits", "fetched", "first", "least", "greatest"] ["row", "hits", "fetched"] (defScope (topS 35)) := ⟨rfl, rfl, rfl, by decide +kernel, rfl, by decide +kernel, by decide +kernel⟩
def g_places_or_asks : SE → SO := (sSeq (sDrop (liftS (pCall m_check_seen (pCons (pV 0) (pCons (pV 1) (pCons (pV 2) pNil)))))) (sSeq (sAsg 3 false (liftS (pCall m_firsts_among (pCons (pV 0) (pCons (pV 1) pNil))))) (sSeq (sIf (liftS (pNotN (pV 3))) (sRet false (liftS (pTup (pCons (pC (.str "asks")) (pCons (pLst (pCons (pV 3) pNil)) pNil))))) SO.nx) (sSeq (sTup [4, 5] (liftS (pCall m_ends_of (pCons (pV 0) (pCons (pV 1) (pCons (pV 2) pNil)))))) (sSeq (sIf (liftS (pB (gCmp fun i j => decide (i < j)) (pV 5) (pC (.int 1)))) (sRet false (liftS (pTup (pCons (pC (.str "asks")) (pCons (pLst (pCons (pCall m_nearest_fetch (pCons (pV 0) (pCons (pV 2) pNil))) pNil)) pNil))))) SO.nx) (sSeq (sIf (liftS (pB (gCmp fun i j => decide (i ≤ j)) (pV 4) (pV 5))) (sRet false (liftS (pTup (pCons (pC (.str "places")) (pCons (pTup (pCons (pV 4) (pCons (pV 5) pNil))) pNil))))) SO.nx) (sRet false (liftS (pTup (pCons (pC (.str "asks")) (pCons (pLst (pCons (pCall m_farthest_hit (pCons (pV 0) (pCons (pV 1) pNil))) (pCons (pCall m_nearest_fetch (pCons (pV 0) (pCons (pV 2) pNil))) pNil))) pNil)))))))))))
def m_places_or_asks : List T → PR T := runP false 6 3 (g_places_or_asks)
theorem f_places_or_asks (G : Gs K mg) : Fn PP w K mg base 8 "places_or_asks" (topS 35) ["row", "hits", "fetched"] (spP K w mg false (m_places_or_asks)) :=
  ok_pure G.d_places_or_asks sc_places_or_asks fun f cdv A outer s H E O WT hr L hp => (es_cons (es_expr (ps_expr (ee_S (ev_call (f_check_seen G) hr (by omega) L (ea_cons (ev_nv 0) (ea_cons (ev_nv 1) (ea_cons (ev_nv 2) ea_nil)))))) (fun _ _ _ h => h)) (es_cons (es_asg (ps_set (i := 3) sc_places_or_asks.nd rfl (by first | exact .inl rfl | exact .inr rfl) (ee_S (ev_call (f_firsts_among G) hr (by omega) L (ea_cons (ev_nv 0) (ea_cons (ev_nv 1) ea_nil))))) (fun _ _ _ h => h)) (es_cons (es_if (eet_S (et_notN (ev_nv 3))) (es_one (es_ret (ps_ret (ee_S (ev_tup (ea_cons ev_str (ea_cons (ev_n (ev_lst (ea_cons (ev_nv 3) ea_nil))) ea_nil))))) (fun _ _ _ h => h))) es_nil) (es_cons (es_tup (is := [4, 5]) (ps_asg (ee_S (ev_call (f_ends_of G) hr (by omega) L (ea_cons (ev_nv 0) (ea_cons (ev_nv 1) (ea_cons (ev_nv 2) ea_nil))))) (pg_tup rfl (pgs_cons (pg_name (i := 4) sc_places_or_asks.nd rfl (by first | exact .inl rfl | exact .inr rfl)) (pgs_cons (pg_name (i := 5) sc_places_or_asks.nd rfl (by first | exact .inl rfl | exact .inr rfl)) pgs_nil))) rfl rfl) (fun _ _ _ h => h)) (es_cons (es_if (eet_S (et_cmp op_lt ok_cmp (ev_nv 5) ev_int (nomark _))) (es_one (es_ret (ps_ret (ee_S (ev_tup (ea_cons ev_str (ea_cons (ev_n (ev_lst (ea_cons (ev_call (f_nearest_fetch G) hr (by omega) L (ea_cons (ev_nv 0) (ea_cons (ev_nv 2) ea_nil))) ea_nil))) ea_nil))))) (fun _ _ _ h => h))) es_nil) (es_cons (es_if (eet_S (et_cmp op_le ok_cmp (ev_nv 4) (ev_nv 5) (nomark _))) (es_one (es_ret (ps_ret (ee_S (ev_tup (ea_cons ev_str (ea_cons (ev_tup (ea_cons (ev_nv 4) (ea_cons (ev_nv 5) ea_nil))) ea_nil))))) (fun _ _ _ h => h))) es_nil) (es_one (es_ret (ps_ret (ee_S (ev_tup (ea_cons ev_str (ea_cons (ev_n (ev_lst (ea_cons (ev_call (f_farthest_hit G) hr (by omega) L (ea_cons (ev_nv 0) (ea_cons (ev_nv 1) ea_nil))) (ea_cons (ev_call (f_nearest_fetch G) hr (by omega) L (ea_cons (ev_nv 0) (ea_cons (ev_nv 2) ea_nil))) ea_nil)))) ea_nil))))) (fun _ _ _ h => h)))))))))
theorem sc_fits_seen : FnScope ["row", "hits", "fetched", "places", "told", "ask"] ["row", "hits", "fetched", "places"] (defScope (topS 36)) := ⟨rfl, rfl, rfl, by decide +kernel, rfl, by decide +kernel, by decide +kernel⟩
def g_fits_seen : SE → SO := (sSeq (sAsg 4 false (liftS (pCall m_distances_of (pCons (pV 0) pNil)))) (sSeq (sIf (liftS (pB gNe (pLc (pItL (pV 1)) [5] (gN 5) (pOr (pIsN (pOp gDix (pV 4) (pV 5))) (pB (gCmp fun i j => decide (j ≤ i)) (pOp gDix (pV 4) (pV 5)) (pV 3))) (pV 5)) (pLst pNil))) (sRet false (liftS (pC (.bl false)))) SO.nx) (sRet false (liftS (pOfB (pB gEq (pLc (pItL (pV 2)) [5] (gN 5) (pAnd (pNotN (pOp gDix (pV 4) (pV 5))) (pB (gCmp fun i j => decide (i < j)) (pOp gDix (pV 4) (pV 5)) (pV 3))) (pV 5)) (pLst pNil)))))))
def m_fits_seen : List T → PR T := runP false 6 4 (g_fits_seen)
theorem f_fits_seen (G : Gs K mg) : Fn PP w K mg base 2 "fits_seen" (topS 36) ["row", "hits", "fetched", "places"] (spP K w mg false (m_fits_seen)) :=
  ok_pure G.d_fits_seen sc_fits_seen fun f cdv A outer s H E O WT hr L hp => (es_cons (es_asg (ps_set (i := 4) sc_fits_seen.nd rfl (by first | exact .inl rfl | exact .inr rfl) (ee_S (ev_n (ev_callN (f_distances_of G) hr (by omega) L (ea_cons (ev_nv 0) ea_nil))))) (fun _ _ _ h => h)) (es_cons (es_if (eet_S (et_cmp (op_neD hr.units) ok_ne (ev_n (ev_lc rfl sc_fits_seen.nd (ei_lst (ev_nv 1)) (blkOk_by (own := [("ask", 5)]) (by kernel_rfl)) (fun _ _ _ _ _ => (eg_name (pg_name (i := 5) sc_fits_seen.nd rfl (by first | exact .inl rfl | exact .inr rfl)))) (fun _ _ _ _ _ => (ets_one (ew_or (et_isN (ev_ixD hr (ev_nv 4) (ev_nv 5))) (ew_or1 (et_cmp op_ge ok_cmp (ev_ixD hr (ev_nv 4) (ev_nv 5)) (ev_nv 3) (nomark _)))).pt)) (fun _ _ _ _ _ => (ev_nv 5)))) (ev_n (ev_lst ea_nil)) (nomark _))) (es_one (es_ret (ps_ret (ee_S ev_bl)) (fun _ _ _ h => h))) es_nil) (es_one (es_ret (ps_ret (ee_S (ev_cmp (op_eqD hr.units) ok_eq (ev_n (ev_lc rfl sc_fits_seen.nd (ei_lst (ev_nv 2)) (blkOk_by (own := [("ask", 5)]) (by kernel_rfl)) (fun _ _ _ _ _ => (eg_name (pg_name (i := 5) sc_fits_seen.nd rfl (by first | exact .inl rfl | exact .inr rfl)))) (fun _ _ _ _ _ => (ets_one (ew_and (et_notN (ev_ixD hr (ev_nv 4) (ev_nv 5))) (ew_and1 (et_cmp op_lt ok_cmp (ev_ixD hr (ev_nv 4) (ev_nv 5)) (ev_nv 3) (nomark _)))).pt)) (fun _ _ _ _ _ => (ev_nv 5)))) (ev_n (ev_lst ea_nil)) (nomark _)))) (fun _ _ _ h => h)))))
theorem sc_places_seen : FnScope ["row", "hits", "fetched", "places"] ["row", "hits", "fetched"] (defScope (topS 37)) := ⟨rfl, rfl, rfl, by decide +kernel, rfl, by decide +kernel, by decide +kernel⟩
def g_places_seen : SE → SO := (sSeq (sDrop (liftS (pCall m_check_seen (pCons (pV 0) (pCons (pV 1) (pCons (pV 2) pNil)))))) (sRet true (liftS (pLc (pRng2 (pCons (pC (.int 1)) (pCons (pOp gAdd (pC (.int 26)) (pC (.int 1))) pNil))) [3] (gN 3) (pTru (pCall m_fits_seen (pCons (pV 0) (pCons (pV 1) (pCons (pV 2) (pCons (pV 3) pNil)))))) (pV 3)))))
def m_places_seen : List T → PR T := runP true 4 3 (g_places_seen)
theorem f_places_seen (G : Gs K mg) : Fn PP w K mg base 8 "places_seen" (topS 37) ["row", "hits", "fetched"] (spP K w mg true (m_places_seen)) :=
  ok_pure G.d_places_seen sc_places_seen fun f cdv A outer s H E O WT hr L hp => (es_cons (es_expr (ps_expr (ee_S (ev_call (f_check_seen G) hr (by omega) L (ea_cons (ev_nv 0) (ea_cons (ev_nv 1) (ea_cons (ev_nv 2) ea_nil)))))) (fun _ _ _ h => h)) (es_one (es_ret (ps_ret (ee_N (ev_lc rfl sc_places_seen.nd (ei_rng2 rfl G.z_range (ea_cons ev_int (ea_cons (ev_op or_add ok_add (ev_gi G.n_MOST_THINGS) ev_int) ea_nil))) (blkOk_by (own := [("places", 3)]) (by kernel_rfl)) (fun _ _ _ _ _ => (eg_name (pg_name (i := 3) sc_places_seen.nd rfl (by first | exact .inl rfl | exact .inr rfl)))) (fun _ _ _ _ _ => (ets_one (et_tru (ev_call (f_fits_seen G) hr (by omega) lets0 (ea_cons (ev_nv 0) (ea_cons (ev_nv 1) (ea_cons (ev_nv 2) (ea_cons (ev_nv 3) ea_nil)))))))) (fun _ _ _ _ _ => (ev_nv 3))))) (fun _ _ _ h => h))))
theorem sc_check_most : FnScope ["most"] ["most"] (defScope (topS 51)) := ⟨rfl, rfl, rfl, by decide +kernel, rfl, by decide +kernel, by decide +kernel⟩
def g_check_most : SE → SO := (sIf (liftS (pNot (pTru (pCall m_is_places (pCons (pV 0) pNil))))) sNever SO.nx)
def m_check_most : List T → PR T := runP false 1 1 (g_check_most)
theorem f_check_most (G : Gs K mg) : Fn PP w K mg base 3 "check_most" (topS 51) ["most"] (spP K w mg false (m_check_most)) :=
  ok_pure G.d_check_most sc_check_most fun f cdv A outer s H E O WT hr L hp => (es_one (es_if (eet_S (et_not (et_tru (ev_call (f_is_places G) hr (by omega) L (ea_cons (ev_nv 0) ea_nil))))) (es_one es_never) es_nil))
theorem sc_row_of : FnScope ["told", "row", "now", "far", "thing", "other"] ["told"] (defScope (topS 41)) := ⟨rfl, rfl, rfl, by decide +kernel, rfl, by decide +kernel, by decide +kernel⟩
def g_row_of : SE → SO := (sSeq (sAsg 1 true (liftS (pLst pNil))) (sSeq (sAsg 2 false (liftS (pLst pNil))) (sSeq (sForE (liftS (pItL (pV 0))) (gNE 3) (sSeq (sAsg 4 false (liftS (pIf (pIsN (pV 3)) (pF gLenA (pCons (pV 2) pNil)) (pOp gDix (pV 2) (pV 3))))) (sSeq (sApp 1 (liftS (pV 4))) (sAsg 2 false (liftS (pOp gCat (pLst (pCons (pV 4) pNil)) (pLc (pItL (pV 2)) [5] (gN 5) (pB gNe (pV 5) (pV 4)) (pV 5)))))))) (sRet true (mvS 1)))))
def m_row_of : List T → PR T := runP true 6 1 (g_row_of)
theorem f_row_of (G : Gs K mg) : Fn PP w K mg base 1 "row_of" (topS 41) ["told"] (spP K w mg true (m_row_of)) :=
  ok_pure G.d_row_of sc_row_of fun f cdv A outer s H E O WT hr L hp => (es_cons (es_asg (ps_set (i := 1) sc_row_of.nd rfl (by first | exact .inl rfl | exact .inr rfl) (ee_N (ev_lst ea_nil))) (fun _ _ _ h => h)) (es_cons (es_asg (ps_set (i := 2) sc_row_of.nd rfl (by first | exact .inl rfl | exact .inr rfl) (ee_S (ev_n (ev_lst ea_nil)))) (fun _ _ _ h => h)) (es_cons (es_forE (ps_for hp rfl (eei_p (ei_lst (ev_nv 0))) (pg_name (i := 3) sc_row_of.nd rfl (by first | exact .inl rfl | exact .inr rfl)) (es_cons (es_asg (ps_set (i := 4) sc_row_of.nd rfl (by first | exact .inl rfl | exact .inr rfl) (ee_S (ev_if (et_isN (ev_nv 3)) (ev_b call_lenA ok_lenA G.z_len rfl (ea_cons (ev_nv 2) ea_nil)) (ev_ixD hr (ev_nv 2) (ev_nv 3))))) (fun _ _ _ h => h)) (es_cons (es_app (ps_expr (pe_bm PySem.F.plainAttrs_list PySem.F.slot_list_append PySem.F.type_list_append mt_append (pe_nv 1) (pa_cons (ee_S (ev_nv 4)) pa_nil))) (fun _ _ _ h => h)) (es_one (es_asg (ps_set (i := 2) sc_row_of.nd rfl (by first | exact .inl rfl | exact .inr rfl) (ee_S (ev_n (ev_opN op_cat new_cat (ev_n (ev_lst (ea_cons (ev_nv 4) ea_nil))) (ev_n (ev_lc rfl sc_row_of.nd (ei_lst (ev_nv 2)) (blkOk_by (own := [("other", 5)]) (by kernel_rfl)) (fun _ _ _ _ _ => (eg_name (pg_name (i := 5) sc_row_of.nd rfl (by first | exact .inl rfl | exact .inr rfl)))) (fun _ _ _ _ _ => (ets_one (et_cmp (op_neD hr.units) ok_ne (ev_nv 5) (ev_nv 4) (nomark _)))) (fun _ _ _ _ _ => (ev_nv 5)))))))) (fun _ _ _ h => h)))))) (fun _ _ _ _ => rd_gn) (fun _ _ _ h => h)) (es_one (es_ret (ps_ret (ee_mv (pe_nv 1))) (fun _ _ _ h => h))))))
theorem sc_row_or_ask : FnScope ["sizes", "log", "most", "told", "ask"] ["sizes", "log", "most"] (defScope (topS 52)) := ⟨rfl, rfl, rfl, by decide +kernel, rfl, by decide +kernel, by decide +kernel⟩
def g_row_or_ask : SE → SO := (sSeq (sDrop (liftS (pCall m_check_sizes (pCons (pV 0) pNil)))) (sSeq (sDrop (liftS (pCall m_check_log (pCons (pV 0) (pCons (pV 1) pNil))))) (sSeq (sDrop (liftS (pCall m_check_most (pCons (pV 2) pNil)))) (sSeq (sTup [3, 4] (liftS (pCall m_told_distances (pCons (pV 0) (pCons (pV 1) (pCons (pV 2) pNil)))))) (sSeq (sIf (liftS (pIsN (pV 3))) (sRet false (liftS (pTup (pCons (pC (.str "ask")) (pCons (pV 4) pNil))))) SO.nx) (sRet false (liftS (pTup (pCons (pC (.str "row")) (pCons (pCall m_row_of (pCons (pV 3) pNil)) pNil))))))))))
def m_row_or_ask : List T → PR T := runP false 5 3 (g_row_or_ask)
theorem f_row_or_ask (G : Gs K mg) : Fn PP w K mg base 6 "row_or_ask" (topS 52) ["sizes", "log", "most"] (spP K w mg false (m_row_or_ask)) :=
  ok_pure G.d_row_or_ask sc_row_or_ask fun f cdv A outer s H E O WT hr L hp => (es_cons (es_expr (ps_expr (ee_S (ev_call (f_check_sizes G) hr (by omega) L (ea_cons (ev_nv 0) ea_nil)))) (fun _ _ _ h => h)) (es_cons (es_expr (ps_expr (ee_S (ev_call (f_check_log G) hr (by omega) L (ea_cons (ev_nv 0) (ea_cons (ev_nv 1) ea_nil))))) (fun _ _ _ h => h)) (es_cons (es_expr (ps_expr (ee_S (ev_call (f_check_most G) hr (by omega) L (ea_cons (ev_nv 2) ea_nil)))) (fun _ _ _ h => h)) (es_cons (es_tup (is := [3, 4]) (ps_asg (ee_S (ev_call (f_told_distances G) hr (by omega) L (ea_cons (ev_nv 0) (ea_cons (ev_nv 1) (ea_cons (ev_nv 2) ea_nil))))) (pg_tup rfl (pgs_cons (pg_name (i := 3) sc_row_or_ask.nd rfl (by first | exact .inl rfl | exact .inr rfl)) (pgs_cons (pg_name (i := 4) sc_row_or_ask.nd rfl (by first | exact .inl rfl | exact .inr rfl)) pgs_nil))) rfl rfl) (fun _ _ _ h => h)) (es_cons (es_if (eet_S (et_isN (ev_nv 3))) (es_one (es_ret (ps_ret (ee_S (ev_tup (ea_cons ev_str (ea_cons (ev_nv 4) ea_nil))))) (fun _ _ _ h => h))) es_nil) (es_one (es_ret (ps_ret (ee_S (ev_tup (ea_cons ev_str (ea_cons (ev_n (ev_callN (f_row_of G) hr (by omega) L (ea_cons (ev_nv 3) ea_nil))) ea_nil))))) (fun _ _ _ h => h))))))))
theorem sc_things_of : FnScope ["row"] ["row"] (defScope (topS 22)) := ⟨rfl, rfl, rfl, by decide +kernel, rfl, by decide +kernel, by decide +kernel⟩
def g_things_of : SE → SO := (sRet true (liftS (pF gSortedA (pCons (pF gSet (pCons (pV 0) pNil)) pNil))))
def m_things_of : List T → PR T := runP true 1 1 (g_things_of)
theorem f_things_of (G : Gs K mg) : Fn PP w K mg base 1 "things_of" (topS 22) ["row"] (spP K w mg true (m_things_of)) :=
  ok_pure G.d_things_of sc_things_of fun f cdv A outer s H E O WT hr L hp => (es_one (es_ret (ps_ret (ee_N (ev_bN (call_sortedA rfl) new_sortedA G.z_sorted rfl (ea_cons (ev_n (ev_tN (cr_setL rfl) new_setL G.z_set rfl (ea_cons (ev_nv 0) ea_nil))) ea_nil)))) (fun _ _ _ h => h)))
theorem sc_things : FnScope ["row"] ["row"] (defScope (topS 23)) := ⟨rfl, rfl, rfl, by decide +kernel, rfl, by decide +kernel, by decide +kernel⟩
def g_things : SE → SO := (sSeq (sDrop (liftS (pCall m_check_row (pCons (pV 0) pNil)))) (sRet true (liftS (pCall m_things_of (pCons (pV 0) pNil)))))
def m_things : List T → PR T := runP true 1 1 (g_things)
theorem f_things (G : Gs K mg) : Fn PP w K mg base 7 "things" (topS 23) ["row"] (spP K w mg true (m_things)) :=
  ok_pure G.d_things sc_things fun f cdv A outer s H E O WT hr L hp => (es_cons (es_expr (ps_expr (ee_S (ev_call (f_check_row G) hr (by omega) L (ea_cons (ev_nv 0) ea_nil)))) (fun _ _ _ h => h)) (es_one (es_ret (ps_ret (ee_N (ev_callN (f_things_of G) hr (by omega) L (ea_cons (ev_nv 0) ea_nil)))) (fun _ _ _ h => h))))
theorem sc_telling_ask : FnScope ["row", "places", "told"] ["row", "places"] (defScope (topS 38)) := ⟨rfl, rfl, rfl, by decide +kernel, rfl, by decide +kernel, by decide +kernel⟩
def g_telling_ask : SE → SO := (sSeq (sAsg 2 false (liftS (pCall m_distances_of (pCons (pV 0) pNil)))) (sRet false (liftS (pIf (pB gInA (pOp gSub (pV 1) (pC (.int 1))) (pV 2)) (pLm gIndex (pV 2) (pCons (pOp gSub (pV 1) (pC (.int 1))) pNil)) (pC .non)))))
def m_telling_ask : List T → PR T := runP false 3 2 (g_telling_ask)
theorem f_telling_ask (G : Gs K mg) : Fn PP w K mg base 2 "telling_ask" (topS 38) ["row", "places"] (spP K w mg false (m_telling_ask)) :=
  ok_pure G.d_telling_ask sc_telling_ask fun f cdv A outer s H E O WT hr L hp => (es_cons (es_asg (ps_set (i := 2) sc_telling_ask.nd rfl (by first | exact .inl rfl | exact .inr rfl) (ee_S (ev_n (ev_callN (f_distances_of G) hr (by omega) L (ea_cons (ev_nv 0) ea_nil))))) (fun _ _ _ h => h)) (es_one (es_ret (ps_ret (ee_S (ev_if (et_cmp or_inA ok_inA (ev_op op_sub ok_sub (ev_nv 1) ev_int) (ev_nv 2) rfl) (PEm (pe_bm PySem.F.plainAttrs_list PySem.F.slot_list_index PySem.F.type_list_index mt_index (ev_nv 2) (ea_cons (ev_op op_sub ok_sub (ev_nv 1) ev_int) ea_nil)) fun _ _ _ => rd_lm rfl ok_index) ev_non))) (fun _ _ _ h => h))))
theorem sc_told_apart : FnScope ["row", "places"] ["row"] (defScope (topS 39)) := ⟨rfl, rfl, rfl, by decide +kernel, rfl, by decide +kernel, by decide +kernel⟩
def g_told_apart : SE → SO := (sSeq (sDrop (liftS (pCall m_check_row (pCons (pV 0) pNil)))) (sRet true (liftS (pLc (pRng2 (pCons (pC (.int 2)) (pCons (pOp gAdd (pC (.int 26)) (pC (.int 1))) pNil))) [1] (gN 1) (pNotN (pCall m_telling_ask (pCons (pV 0) (pCons (pV 1) pNil)))) (pV 1)))))
def m_told_apart : List T → PR T := runP true 2 1 (g_told_apart)
theorem f_told_apart (G : Gs K mg) : Fn PP w K mg base 7 "told_apart" (topS 39) ["row"] (spP K w mg true (m_told_apart)) :=
  ok_pure G.d_told_apart sc_told_apart fun f cdv A outer s H E O WT hr L hp => (es_cons (es_expr (ps_expr (ee_S (ev_call (f_check_row G) hr (by omega) L (ea_cons (ev_nv 0) ea_nil)))) (fun _ _ _ h => h)) (es_one (es_ret (ps_ret (ee_N (ev_lc rfl sc_told_apart.nd (ei_rng2 rfl G.z_range (ea_cons ev_int (ea_cons (ev_op or_add ok_add (ev_gi G.n_MOST_THINGS) ev_int) ea_nil))) (blkOk_by (own := [("places", 1)]) (by kernel_rfl)) (fun _ _ _ _ _ => (eg_name (pg_name (i := 1) sc_told_apart.nd rfl (by first | exact .inl rfl | exact .inr rfl)))) (fun _ _ _ _ _ => (ets_one (et_notN (ev_call (f_telling_ask G) hr (by omega) lets0 (ea_cons (ev_nv 0) (ea_cons (ev_nv 1) ea_nil)))))) (fun _ _ _ _ _ => (ev_nv 1))))) (fun _ _ _ h => h))))
theorem sc_are_weights : FnScope ["value", "weight"] ["value"] (defScope (topS 18)) := ⟨rfl, rfl, rfl, by decide +kernel, rfl, by decide +kernel, by decide +kernel⟩
def g_are_weights : SE → SO := (sSeq (sIf (liftS (pOr (pNot (pTru (pF gIsi (pCons (pV 0) (pCons (pC (.ty "list")) pNil))))) (pB gNe (pF gLenA (pCons (pV 0) pNil)) (pC (.int 26))))) (sRet false (liftS (pC (.bl false)))) SO.nx) (sRet false (liftS (pOfB (pB gEq (pLc (pItL (pV 0)) [1] (gN 1) (pOr (pNot (pTru (pCall m_is_count (pCons (pV 1) pNil)))) (pB (gCmp fun i j => decide (j < i)) (pV 1) (pC (.int 1000)))) (pV 1)) (pLst pNil))))))
def m_are_weights : List T → PR T := runP false 2 1 (g_are_weights)
theorem f_are_weights (G : Gs K mg) : Fn PP w K mg base 3 "are_weights" (topS 18) ["value"] (spP K w mg false (m_are_weights)) :=
  ok_pure G.d_are_weights sc_are_weights fun f cdv A outer s H E O WT hr L hp => (es_cons (es_if (eet_S (ew_or (et_not (et_tru (ev_b call_isi ok_isi G.z_isinstance rfl (ea_cons (ev_nv 0) (ea_cons (ev_ty G.z_list rfl) ea_nil))))) (ew_or1 (et_cmp (op_neD hr.units) ok_ne (ev_b call_lenA ok_lenA G.z_len rfl (ea_cons (ev_nv 0) ea_nil)) (ev_gi G.n_MOST_THINGS) (nomark _)))).pt) (es_one (es_ret (ps_ret (ee_S ev_bl)) (fun _ _ _ h => h))) es_nil) (es_one (es_ret (ps_ret (ee_S (ev_cmp (op_eqD hr.units) ok_eq (ev_n (ev_lc rfl sc_are_weights.nd (ei_lst (ev_nv 0)) (blkOk_by (own := [("weight", 1)]) (by kernel_rfl)) (fun _ _ _ _ _ => (eg_name (pg_name (i := 1) sc_are_weights.nd rfl (by first | exact .inl rfl | exact .inr rfl)))) (fun _ _ _ _ _ => (ets_one (ew_or (et_not (et_tru (ev_call (f_is_count G) hr (by omega) lets0 (ea_cons (ev_nv 1) ea_nil)))) (ew_or1 (et_cmp op_gt ok_cmp (ev_nv 1) (ev_gi G.n_MOST_WEIGHT) (nomark _)))).pt)) (fun _ _ _ _ _ => (ev_nv 1)))) (ev_n (ev_lst ea_nil)) (nomark _)))) (fun _ _ _ h => h))))
theorem sc_check_weights : FnScope ["weights"] ["weights"] (defScope (topS 21)) := ⟨rfl, rfl, rfl, by decide +kernel, rfl, by decide +kernel, by decide +kernel⟩
def g_check_weights : SE → SO := (sIf (liftS (pNot (pTru (pCall m_are_weights (pCons (pV 0) pNil))))) sNever SO.nx)
def m_check_weights : List T → PR T := runP false 1 1 (g_check_weights)
theorem f_check_weights (G : Gs K mg) : Fn PP w K mg base 4 "check_weights" (topS 21) ["weights"] (spP K w mg false (m_check_weights)) :=
  ok_pure G.d_check_weights sc_check_weights fun f cdv A outer s H E O WT hr L hp => (es_one (es_if (eet_S (et_not (et_tru (ev_call (f_are_weights G) hr (by omega) L (ea_cons (ev_nv 0) ea_nil))))) (es_one es_never) es_nil))
theorem sc_unused_curve : FnScope ["row", "weights", "told", "found", "places", "missed", "ask", "far"] ["row", "weights"] (defScope (topS 27)) := ⟨rfl, rfl, rfl, by decide +kernel, rfl, by decide +kernel, by decide +kernel⟩
def g_unused_curve : SE → SO := (sSeq (sDrop (liftS (pCall m_check_row (pCons (pV 0) pNil)))) (sSeq (sDrop (liftS (pCall m_check_weights (pCons (pV 1) pNil)))) (sSeq (sAsg 2 false (liftS (pCall m_distances_of (pCons (pV 0) pNil)))) (sSeq (sAsg 3 true (liftS (pLst pNil))) (sSeq (sForE (liftS (pRng2 (pCons (pC (.int 1)) (pCons (pOp gAdd (pC (.int 26)) (pC (.int 1))) pNil)))) (gNE 4) (sSeq (sAsg 5 false (liftS (pLc (pEnum (pCons (pV 2) pNil)) [6, 7] (gT2 6 7) (pOr (pIsN (pV 7)) (pB (gCmp fun i j => decide (j ≤ i)) (pV 7) (pV 4))) (pV 6)))) (sApp 3 (liftS (pF gSum (pCons (pLc (pItL (pV 5)) [6] (gN 6) pYes (pOp gDix (pV 1) (pOp gDix (pV 0) (pV 6)))) pNil)))))) (sRet true (mvS 3)))))))
def m_unused_curve : List T → PR T := runP true 8 2 (g_unused_curve)
theorem f_unused_curve (G : Gs K mg) : Fn PP w K mg base 7 "unused_curve" (topS 27) ["row", "weights"] (spP K w mg true (m_unused_curve)) :=
  ok_pure G.d_unused_curve sc_unused_curve fun f cdv A outer s H E O WT hr L hp => (es_cons (es_expr (ps_expr (ee_S (ev_call (f_check_row G) hr (by omega) L (ea_cons (ev_nv 0) ea_nil)))) (fun _ _ _ h => h)) (es_cons (es_expr (ps_expr (ee_S (ev_call (f_check_weights G) hr (by omega) L (ea_cons (ev_nv 1) ea_nil)))) (fun _ _ _ h => h)) (es_cons (es_asg (ps_set (i := 2) sc_unused_curve.nd rfl (by first | exact .inl rfl | exact .inr rfl) (ee_S (ev_n (ev_callN (f_distances_of G) hr (by omega) L (ea_cons (ev_nv 0) ea_nil))))) (fun _ _ _ h => h)) (es_cons (es_asg (ps_set (i := 3) sc_unused_curve.nd rfl (by first | exact .inl rfl | exact .inr rfl) (ee_N (ev_lst ea_nil))) (fun _ _ _ h => h)) (es_cons (es_forE (ps_for hp rfl (eei_p (ei_rng2 rfl G.z_range (ea_cons ev_int (ea_cons (ev_op or_add ok_add (ev_gi G.n_MOST_THINGS) ev_int) ea_nil)))) (pg_name (i := 4) sc_unused_curve.nd rfl (by first | exact .inl rfl | exact .inr rfl)) (es_cons (es_asg (k := false) (ps_setLc (i := 5) rfl sc_unused_curve.nd rfl rfl (sw_true rfl rfl rfl rfl) (ei_enum rfl G.z_enumerate (ea_cons (ev_nv 2) ea_nil)) (blkOk_by (own := [("ask", 6), ("far", 7)]) (by kernel_rfl)) (fun _ _ _ _ _ => (eg_t2 rfl (pg_tup rfl (pgs_cons (pg_name (i := 6) sc_unused_curve.nd rfl (by first | exact .inl rfl | exact .inr rfl)) (pgs_cons (pg_name (i := 7) sc_unused_curve.nd rfl (by first | exact .inl rfl | exact .inr rfl)) pgs_nil))))) (fun _ _ _ _ _ => (ets_one (ew_or (et_isN (ev_nv 7)) (ew_or1 (et_cmp op_ge ok_cmp (ev_nv 7) (ev_nv 4) (nomark _)))).pt)) (fun _ _ _ _ _ => (ev_nv 6))) (fun _ _ _ h => rd_lc (by decide) (rd_SN (rd_EN (k := true) h)))) (es_one (es_app (ps_expr (pe_bm PySem.F.plainAttrs_list PySem.F.slot_list_append PySem.F.type_list_append mt_append (pe_nv 3) (pa_cons (ee_S (ev_b (cr_sum rfl) ok_sum G.z_sum rfl (ea_cons (ev_n (ev_lc rfl sc_unused_curve.nd (ei_lst (ev_nv 5)) (blkOk_by (own := [("ask", 6)]) (by kernel_rfl)) (fun _ _ _ _ _ => (eg_name (pg_name (i := 6) sc_unused_curve.nd rfl (by first | exact .inl rfl | exact .inr rfl)))) (fun _ _ _ _ _ => ets_nil) (fun _ _ _ _ _ => (ev_ixD hr (ev_nv 1) (ev_ixD hr (ev_nv 0) (ev_nv 6)))))) ea_nil))) pa_nil))) (fun _ _ _ h => h))))) (fun _ _ _ _ => rd_gn) (fun _ _ _ h => h)) (es_one (es_ret (ps_ret (ee_mv (pe_nv 3))) (fun _ _ _ h => h))))))))
theorem sc_unused_hits : FnScope ["row", "places", "ask", "far"] ["row", "places"] (defScope (topS 26)) := ⟨rfl, rfl, rfl, by decide +kernel, rfl, by decide +kernel, by decide +kernel⟩
def g_unused_hits : SE → SO := (sSeq (sDrop (liftS (pCall m_check_row (pCons (pV 0) pNil)))) (sSeq (sDrop (liftS (pCall m_check_places (pCons (pV 1) pNil)))) (sRet true (liftS (pLc (pEnum (pCons (pCall m_distances_of (pCons (pV 0) pNil)) pNil)) [2, 3] (gT2 2 3) (pAnd (pNotN (pV 3)) (pB (gCmp fun i j => decide (i < j)) (pV 3) (pV 1))) (pV 2))))))
def m_unused_hits : List T → PR T := runP true 4 2 (g_unused_hits)
theorem f_unused_hits (G : Gs K mg) : Fn PP w K mg base 7 "unused_hits" (topS 26) ["row", "places"] (spP K w mg true (m_unused_hits)) :=
  ok_pure G.d_unused_hits sc_unused_hits fun f cdv A outer s H E O WT hr L hp => (es_cons (es_expr (ps_expr (ee_S (ev_call (f_check_row G) hr (by omega) L (ea_cons (ev_nv 0) ea_nil)))) (fun _ _ _ h => h)) (es_cons (es_expr (ps_expr (ee_S (ev_call (f_check_places G) hr (by omega) L (ea_cons (ev_nv 1) ea_nil)))) (fun _ _ _ h => h)) (es_one (es_ret (ps_ret (ee_N (ev_lc rfl sc_unused_hits.nd (ei_enum rfl G.z_enumerate (ea_cons (ev_n (ev_callN (f_distances_of G) hr (by omega) L (ea_cons (ev_nv 0) ea_nil))) ea_nil)) (blkOk_by (own := [("ask", 2), ("far", 3)]) (by kernel_rfl)) (fun _ _ _ _ _ => (eg_t2 rfl (pg_tup rfl (pgs_cons (pg_name (i := 2) sc_unused_hits.nd rfl (by first | exact .inl rfl | exact .inr rfl)) (pgs_cons (pg_name (i := 3) sc_unused_hits.nd rfl (by first | exact .inl rfl | exact .inr rfl)) pgs_nil))))) (fun _ _ _ _ _ => (ets_one (ew_and (et_notN (ev_nv 3)) (ew_and1 (et_cmp op_lt ok_cmp (ev_nv 3) (ev_nv 1) (nomark _)))).pt)) (fun _ _ _ _ _ => (ev_nv 2))))) (fun _ _ _ h => h)))))
theorem sc_law : FnScope ["script", "generator", "row", "sizes", "kept", "log", "many", "plain", "word", "other", "curves", "size", "number", "hits", "missed", "ask", "ends", "one", "apart", "places"] ["script"] (defScope (topS 73)) := ⟨rfl, rfl, rfl, by decide +kernel, rfl, by decide +kernel, by decide +kernel⟩
def g_law : SE → SO := (sSeq (sAsg 1 true (liftS (pCall m__law_generator (pCons (pV 0) (pCons (pC (.int 0)) pNil))))) (sSeq (sAsg 2 false (eIo 1 m__law_drawn_row (eCons (liftS (pC (.int 40))) eNil))) (sSeq (sPar 3 4 false false (eF gSortedA (eCons (eSl (eIo 1 m__law_drawn_order (eCons (liftS (pLR2 (pC (.int 1)) (pC (.int 12)))) eNil)) eNoPart (ePart (eOp gAdd (liftS (pC (.int 1))) (eIo 1 m__law_random (eCons (liftS (pC (.int 4))) eNil))))) eNil)) (liftS (pF gRepr (pCons (pV 2) pNil)))) (fun ρ => (sSeq (sPar3 5 6 7 false false false (liftS (pCall m_log_of (pCons (pV 2) (pCons (pV 3) pNil)))) (liftS (pF gLenA (pCons (pCall m_things (pCons (pV 2) pNil)) pNil))) (liftS (pOp gRepN (pLst (pCons (pC (.int 1)) pNil)) (pC (.int 26))))) (sSeq (sTup [8, 9] (liftS (pCall m_row_or_ask (pCons (pV 3) (pCons (pV 5) (pCons (pV 6) pNil)))))) (sSeq (sIf (liftS (pOr (pB gNe (pV 8) (pC (.str "row"))) (pOr (pB gNotB (pCall m_has_log (pCons (pV 9) (pCons (pV 3) (pCons (pV 5) pNil)))) (pC (.bl true))) (pOr (pB (gCmp fun i j => decide (j < i)) (pF gLenA (pCons (pCall m_things (pCons (pV 9) pNil)) pNil)) (pV 6)) (pB (gCmp fun i j => decide (j < i)) (pCall m_fewest_things (pCons (pV 3) (pCons (pV 5) pNil))) (pV 6)))))) (sRet false (liftS (pC (.bl false)))) SO.nx) (sSeq (sAsg 10 false (liftS (pLst (pCons (pCall m_unused_curve (pCons (pV 2) (pCons (pV 7) pNil))) (pCons (pCall m_unused_curve (pCons (pV 9) (pCons (pV 7) pNil))) pNil))))) (sSeq (sIf (liftS (pB gNe (pLc (pItL (pV 3)) [11] (gN 11) (pB gNe (pOp gDix (pOp gDix (pV 10) (pC (.int 0))) (pOp gSub (pV 11) (pC (.int 1)))) (pOp gDix (pOp gDix (pV 10) (pC (.int 1))) (pOp gSub (pV 11) (pC (.int 1))))) (pV 11)) (pLst pNil))) (sRet false (liftS (pC (.bl false)))) SO.nx) (sSeq (sForE (liftS (pEnum (pCons (pV 3) pNil))) (gTE [12, 11]) (sSeq (sAsg 13 false (liftS (pCall m_log_hits (pCons (pV 3) (pCons (pV 5) (pCons (pV 12) pNil)))))) (sSeq (sAsg 14 false (liftS (pLc (pRng1 (pCons (pF gLenA (pCons (pV 2) pNil)) pNil)) [15] (gN 15) (pB gNinA (pV 15) (pV 13)) (pV 15)))) (sSeq (sTup [8, 16] (liftS (pCall m_places_or_asks (pCons (pV 2) (pCons (pV 13) (pCons (pV 14) pNil)))))) (sSeq (sIf (liftS (pOr (pB gNe (pV 13) (pCall m_unused_hits (pCons (pV 2) (pCons (pV 11) pNil)))) (pOr (pB gNe (pV 8) (pC (.str "places"))) (pOr (pNot (pCh (gCmp fun i j => decide (i ≤ j)) (gCmp fun i j => decide (i ≤ j)) (pOp gDix (pV 16) (pC (.int 0))) (pV 11) (pOp gDix (pV 16) (pC (.int 1))))) (pB gNe (pCall m_places_seen (pCons (pV 2) (pCons (pV 13) (pCons (pV 14) pNil)))) (pLR2 (pOp gDix (pV 16) (pC (.int 0))) (pOp gAdd (pOp gDix (pV 16) (pC (.int 1))) (pC (.int 1))))))))) (sRet false (liftS (pC (.bl false)))) SO.nx) (sIf (liftS (pOr (pB gNe (pCall m_pinned_fetches (pCons (pV 2) (pCons (pV 11) (pCons (pLst pNil) pNil)))) (pV 14)) (pB gNe (pLc (pEnum (pCons (pCall m_blames (pCons (pV 2) (pCons (pC (.int 1)) (pCons (pV 11) pNil)))) pNil)) [15, 17] (gT2 15 17) (pB gNe (pV 17) (pC (.str "hit"))) (pV 15)) (pV 14)))) (sRet false (liftS (pC (.bl false)))) SO.nx)))))) (sSeq (sAsg 18 false (liftS (pCall m_told_apart (pCons (pV 2) pNil)))) (sRet false (liftS (pAndV (pOfB (pB gEq (pV 18) (pLc (pRng2 (pCons (pC (.int 2)) (pCons (pC (.int 27)) pNil))) [19] (gN 19) (pB gNe (pOp gDix (pOp gDix (pV 10) (pC (.int 0))) (pOp gSub (pV 19) (pC (.int 1)))) (pOp gDix (pOp gDix (pV 10) (pC (.int 0))) (pOp gSub (pV 19) (pC (.int 2))))) (pV 19)))) (pOfB (pB gEq (pF gRepr (pCons (pV 2) pNil)) (pV 4))))))))))))) (frz 1 ρ)))))
def m_law : List T → PR T := runP false 20 1 (g_law)
theorem f_law (G : Gs K mg) : Fn PP w K mg base 9 "law" (topS 73) ["script"] (spP K w mg false (m_law)) :=
  ok_pure G.d_law sc_law fun f cdv A outer s H E O WT hr L hp => (es_cons (es_asg (ps_set (i := 1) sc_law.nd rfl (by first | exact .inl rfl | exact .inr rfl) (ee_N (ev_callN (f__law_generator G) hr (by omega) L (ea_cons (ev_nv 0) (ea_cons ev_int ea_nil))))) (fun _ _ _ h => h)) (es_cons (es_asg (ps_set (i := 2) sc_law.nd rfl (by first | exact .inl rfl | exact .inr rfl) (ee_io (f__law_drawn_row G) hr (by omega) L (pe_nv 1) (eea_cons (ee_S ev_int) eea_nil))) (fun _ _ _ h => h)) (es_cons (es_par (ps_par (i := 3) (j := 4) rfl sc_law.nd rfl rfl (by decide) rfl rfl (pa_cons (ee_n (ee_bN (call_sortedA rfl) new_sortedA G.z_sorted rfl (eea_cons (ee_n (ee_sl (ee_n (ee_io (f__law_drawn_order G) hr (by omega) L (pe_nv 1) (eea_cons (ee_S (ev_n (ev_lr2 rfl G.z_list G.z_range ev_int ev_int))) eea_nil))) eeo_none (eeo_some (ee_op or_add ok_add (ee_S ev_int) (ee_io (f__law_random G) hr (by omega) L (pe_nv 1) (eea_cons (ee_S ev_int) eea_nil)))))) eea_nil))) (pa_cons (ee_S (ev_b (cr_repr hr) ok_repr G.z_repr rfl (ea_cons (ev_nv 2) ea_nil))) pa_nil)) rfl) (fun _ _ _ h => h) (fun _ _ _ h => h)) (ess_frz 1 (es_cons (es_par3 (ps_par3 (i := 5) (j := 6) (l := 7) rfl sc_law.nd rfl rfl rfl (by decide) (by decide) (by decide) rfl rfl rfl (pa_cons (ee_S (ev_n (ev_callN (f_log_of G) hr (by omega) L (ea_cons (ev_nv 2) (ea_cons (ev_nv 3) ea_nil))))) (pa_cons (ee_S (ev_b call_lenA ok_lenA G.z_len rfl (ea_cons (ev_n (ev_callN (f_things G) hr (by omega) L (ea_cons (ev_nv 2) ea_nil))) ea_nil))) (pa_cons (ee_S (ev_n (ev_opN op_rep new_rep_ (ev_n (ev_lst (ea_cons ev_int ea_nil))) ev_int))) pa_nil))) rfl) (fun _ _ _ h => h) (fun _ _ _ h => h) (fun _ _ _ h => h)) (es_cons (es_tup (is := [8, 9]) (ps_asg (ee_S (ev_call (f_row_or_ask G) hr (by omega) L (ea_cons (ev_nv 3) (ea_cons (ev_nv 5) (ea_cons (ev_nv 6) ea_nil))))) (pg_tup rfl (pgs_cons (pg_name (i := 8) sc_law.nd rfl (by first | exact .inl rfl | exact .inr rfl)) (pgs_cons (pg_name (i := 9) sc_law.nd rfl (by first | exact .inl rfl | exact .inr rfl)) pgs_nil))) rfl rfl) (fun _ _ _ h => h)) (es_cons (es_if (eet_S (ew_or (et_cmp (op_neD hr.units) ok_ne (ev_nv 8) ev_str (nomark _)) (ew_or (et_cmp op_notBl ok_notB (ev_call (f_has_log G) hr (by omega) L (ea_cons (ev_nv 9) (ea_cons (ev_nv 3) (ea_cons (ev_nv 5) ea_nil)))) ev_bl rfl) (ew_or (et_cmp op_gt ok_cmp (ev_b call_lenA ok_lenA G.z_len rfl (ea_cons (ev_n (ev_callN (f_things G) hr (by omega) L (ea_cons (ev_nv 9) ea_nil))) ea_nil)) (ev_nv 6) (nomark _)) (ew_or1 (et_cmp op_gt ok_cmp (ev_call (f_fewest_things G) hr (by omega) L (ea_cons (ev_nv 3) (ea_cons (ev_nv 5) ea_nil))) (ev_nv 6) (nomark _)))))).pt) (es_one (es_ret (ps_ret (ee_S ev_bl)) (fun _ _ _ h => h))) es_nil) (es_cons (es_asg (ps_set (i := 10) sc_law.nd rfl (by first | exact .inl rfl | exact .inr rfl) (ee_S (ev_n (ev_lst (ea_cons (ev_n (ev_callN (f_unused_curve G) hr (by omega) L (ea_cons (ev_nv 2) (ea_cons (ev_nv 7) ea_nil)))) (ea_cons (ev_n (ev_callN (f_unused_curve G) hr (by omega) L (ea_cons (ev_nv 9) (ea_cons (ev_nv 7) ea_nil)))) ea_nil)))))) (fun _ _ _ h => h)) (es_cons (es_if (eet_S (et_cmp (op_neD hr.units) ok_ne (ev_n (ev_lc rfl sc_law.nd (ei_lst (ev_nv 3)) (blkOk_by (own := [("size", 11)]) (by kernel_rfl)) (fun _ _ _ _ _ => (eg_name (pg_name (i := 11) sc_law.nd rfl (by first | exact .inl rfl | exact .inr rfl)))) (fun _ _ _ _ _ => (ets_one (et_cmp (op_neD hr.units) ok_ne (ev_ixD hr (ev_ixD hr (ev_nv 10) ev_int) (ev_op op_sub ok_sub (ev_nv 11) ev_int)) (ev_ixD hr (ev_ixD hr (ev_nv 10) ev_int) (ev_op op_sub ok_sub (ev_nv 11) ev_int)) (nomark _)))) (fun _ _ _ _ _ => (ev_nv 11)))) (ev_n (ev_lst ea_nil)) (nomark _))) (es_one (es_ret (ps_ret (ee_S ev_bl)) (fun _ _ _ h => h))) es_nil) (es_cons (es_forE (ps_for hp rfl (eei_p (ei_enum rfl G.z_enumerate (ea_cons (ev_nv 3) ea_nil))) (pg_tup rfl (pgs_cons (pg_name (i := 12) sc_law.nd rfl (by first | exact .inl rfl | exact .inr rfl)) (pgs_cons (pg_name (i := 11) sc_law.nd rfl (by first | exact .inl rfl | exact .inr rfl)) pgs_nil))) (es_cons (es_asg (ps_set (i := 13) sc_law.nd rfl (by first | exact .inl rfl | exact .inr rfl) (ee_S (ev_n (ev_callN (f_log_hits G) hr (by omega) L (ea_cons (ev_nv 3) (ea_cons (ev_nv 5) (ea_cons (ev_nv 12) ea_nil))))))) (fun _ _ _ h => h)) (es_cons (es_asg (k := false) (ps_setLc (i := 14) rfl sc_law.nd rfl rfl (sw_true rfl rfl rfl rfl) (ei_rng1 rfl G.z_range (ea_cons (ev_b call_lenA ok_lenA G.z_len rfl (ea_cons (ev_nv 2) ea_nil)) ea_nil)) (blkOk_by (own := [("ask", 15)]) (by kernel_rfl)) (fun _ _ _ _ _ => (eg_name (pg_name (i := 15) sc_law.nd rfl (by first | exact .inl rfl | exact .inr rfl)))) (fun _ _ _ _ _ => (ets_one (et_cmp or_ninA ok_ninA (ev_nv 15) (ev_nv 13) rfl))) (fun _ _ _ _ _ => (ev_nv 15))) (fun _ _ _ h => rd_lc (by decide) (rd_SN (rd_EN (k := true) h)))) (es_cons (es_tup (is := [8, 16]) (ps_asg (ee_S (ev_call (f_places_or_asks G) hr (by omega) L (ea_cons (ev_nv 2) (ea_cons (ev_nv 13) (ea_cons (ev_nv 14) ea_nil))))) (pg_tup rfl (pgs_cons (pg_name (i := 8) sc_law.nd rfl (by first | exact .inl rfl | exact .inr rfl)) (pgs_cons (pg_name (i := 16) sc_law.nd rfl (by first | exact .inl rfl | exact .inr rfl)) pgs_nil))) rfl rfl) (fun _ _ _ h => h)) (es_cons (es_if (eet_S (ew_or (et_cmp (op_neD hr.units) ok_ne (ev_nv 13) (ev_n (ev_callN (f_unused_hits G) hr (by omega) L (ea_cons (ev_nv 2) (ea_cons (ev_nv 11) ea_nil)))) (nomark _)) (ew_or (et_cmp (op_neD hr.units) ok_ne (ev_nv 8) ev_str (nomark _)) (ew_or (et_not (et_chain op_le op_le ok_cmp ok_cmp (ev_ixD hr (ev_nv 16) ev_int) (ev_nv 11) (ev_ixD hr (ev_nv 16) ev_int))) (ew_or1 (et_cmp (op_neD hr.units) ok_ne (ev_n (ev_callN (f_places_seen G) hr (by omega) L (ea_cons (ev_nv 2) (ea_cons (ev_nv 13) (ea_cons (ev_nv 14) ea_nil))))) (ev_n (ev_lr2 rfl G.z_list G.z_range (ev_ixD hr (ev_nv 16) ev_int) (ev_op or_add ok_add (ev_ixD hr (ev_nv 16) ev_int) ev_int))) (nomark _)))))).pt) (es_one (es_ret (ps_ret (ee_S ev_bl)) (fun _ _ _ h => h))) es_nil) (es_one (es_if (eet_S (ew_or (et_cmp (op_neD hr.units) ok_ne (ev_n (ev_callN (f_pinned_fetches G) hr (by omega) L (ea_cons (ev_nv 2) (ea_cons (ev_nv 11) (ea_cons (ev_n (ev_lst ea_nil)) ea_nil))))) (ev_nv 14) (nomark _)) (ew_or1 (et_cmp (op_neD hr.units) ok_ne (ev_n (ev_lc rfl sc_law.nd (ei_enum rfl G.z_enumerate (ea_cons (ev_n (ev_callN (f_blames G) hr (by omega) L (ea_cons (ev_nv 2) (ea_cons ev_int (ea_cons (ev_nv 11) ea_nil))))) ea_nil)) (blkOk_by (own := [("ask", 15), ("one", 17)]) (by kernel_rfl)) (fun _ _ _ _ _ => (eg_t2 rfl (pg_tup rfl (pgs_cons (pg_name (i := 15) sc_law.nd rfl (by first | exact .inl rfl | exact .inr rfl)) (pgs_cons (pg_name (i := 17) sc_law.nd rfl (by first | exact .inl rfl | exact .inr rfl)) pgs_nil))))) (fun _ _ _ _ _ => (ets_one (et_cmp (op_neD hr.units) ok_ne (ev_nv 17) ev_str (nomark _)))) (fun _ _ _ _ _ => (ev_nv 15)))) (ev_nv 14) (nomark _)))).pt) (es_one (es_ret (ps_ret (ee_S ev_bl)) (fun _ _ _ h => h))) es_nil))))))) (fun _ _ _ _ => rd_gt rfl rfl) (fun _ _ _ h => h)) (es_cons (es_asg (ps_set (i := 18) sc_law.nd rfl (by first | exact .inl rfl | exact .inr rfl) (ee_S (ev_n (ev_callN (f_told_apart G) hr (by omega) L (ea_cons (ev_nv 2) ea_nil))))) (fun _ _ _ h => h)) (es_one (es_ret (ps_ret (ee_S (ev_and (ev_cmp (op_eqD hr.units) ok_eq (ev_nv 18) (ev_n (ev_lc rfl sc_law.nd (ei_rng2 rfl G.z_range (ea_cons ev_int (ea_cons ev_int ea_nil))) (blkOk_by (own := [("places", 19)]) (by kernel_rfl)) (fun _ _ _ _ _ => (eg_name (pg_name (i := 19) sc_law.nd rfl (by first | exact .inl rfl | exact .inr rfl)))) (fun _ _ _ _ _ => (ets_one (et_cmp (op_neD hr.units) ok_ne (ev_ixD hr (ev_ixD hr (ev_nv 10) ev_int) (ev_op op_sub ok_sub (ev_nv 19) ev_int)) (ev_ixD hr (ev_ixD hr (ev_nv 10) ev_int) (ev_op op_sub ok_sub (ev_nv 19) ev_int)) (nomark _)))) (fun _ _ _ _ _ => (ev_nv 19)))) (nomark _)) (ev_one (ev_cmp (op_eqD hr.units) ok_eq (ev_b (cr_repr hr) ok_repr G.z_repr rfl (ea_cons (ev_nv 2) ea_nil)) (ev_nv 4) (nomark _)))))) (fun _ _ _ h => h))))))))))))))
end K27

set_option Elab.async false
set_option linter.all false
set_option maxRecDepth 100000
set_option maxHeartbeats 4000000
namespace K27
open PySem TL L2
set_option hygiene false in
local macro_rules
  | `(tactic| exists $ts,*) => `(tactic| repeat' (first
    $[| with_reducible exact $ts]*
    | ((with_reducible intro hc); first | (cases hc; done) | skip)
    | with_reducible exact c_ok
    | ((with_reducible apply v_ok); exact rfl)
    | with_reducible exact nil_ok
    | with_reducible exact x_noPart
    | with_reducible apply liftS_ok
    | with_reducible apply cons_ok
    | with_reducible apply op_ok
    | with_reducible apply b_ok
    | with_reducible apply f_ok
    | with_reducible apply u_ok
    | with_reducible apply call_ok
    | with_reducible apply x_and
    | with_reducible apply x_or
    | with_reducible apply x_andV
    | with_reducible apply x_orV
    | with_reducible apply x_notV
    | with_reducible apply x_not
    | with_reducible apply x_if
    | with_reducible apply x_ch
    | with_reducible apply x_isN
    | with_reducible apply x_notN
    | with_reducible apply x_lst
    | with_reducible apply x_tup
    | with_reducible apply x_itL
    | with_reducible apply x_itT
    | with_reducible apply x_enum
    | with_reducible apply x_rng1
    | with_reducible apply x_rng2
    | ((with_reducible apply y_lc0); exact rfl; (with_reducible exact rfl))
    | with_reducible apply y_lcA
    | with_reducible apply y_lc
    | ((with_reducible apply lcA_in); (intro a; exact rfl))
    | ((with_reducible apply lcS_in); (intro a; exact rfl))
    | with_reducible apply x_sl
    | with_reducible apply x_part
    | with_reducible apply x_truB
    | with_reducible apply x_ofB
    | with_reducible apply x_lm
    | with_reducible apply x_lr1
    | with_reducible apply x_lr2
    | with_reducible apply w_seq
    | with_reducible apply qs_frz
    | with_reducible apply qs_nx
    | with_reducible apply qs_rt
    | with_reducible apply qs_bk
    | with_reducible apply qs_ct
    | with_reducible apply ql_nx
    | with_reducible apply ql_ct
    | with_reducible apply ql_bk
    | with_reducible apply ql_rt
    | with_reducible apply qp_rt
    | with_reducible apply qp_nx
    | with_reducible apply w_nx
    | with_reducible apply w_bk
    | with_reducible apply w_ct
    | with_reducible apply w_if
    | with_reducible apply w_asgLc
    | with_reducible apply w_asg
    | with_reducible apply w_app
    | with_reducible apply w_set
    | with_reducible apply w_par
    | with_reducible apply w_par3
    | with_reducible apply w_tup
    | with_reducible apply w_drop
    | with_reducible apply w_ret
    | with_reducible apply w_for
    | ((with_reducible apply qi_rt); exact rfl)
    | ((with_reducible apply qi_nx); exact rfl)
    | with_reducible exact eNil_ok
    | with_reducible exact y_noPart
    | with_reducible apply y_part
    | with_reducible apply y_sl
    | with_reducible apply y_u
    | with_reducible apply y_ofB
    | with_reducible apply y_if
    | with_reducible apply eNot_ok
    | with_reducible apply eTru_ok
    | with_reducible apply y_rng1
    | with_reducible apply liftVT_ok
    | with_reducible apply liftV_ok
    | with_reducible exact flat_i _
    | with_reducible exact flat_n
    | with_reducible exact flat_b _
    | with_reducible exact flat_s _
    | with_reducible apply x_eLst
    | with_reducible apply x_eTup
    | with_reducible apply eOp_ok
    | with_reducible apply eB_ok
    | with_reducible apply eF_ok
    | with_reducible apply eCons_ok
    | with_reducible apply eCall_ok
    | with_reducible apply x_eIo
    | ((with_reducible apply own_ok); exact rfl)
    | with_reducible exact gAdd_i _ _
    | with_reducible exact gSub_i _ _
    | with_reducible exact gNeg_i _
    | with_reducible exact gCmp_i _ _ _
    | with_reducible exact gInt1_i _
    | with_reducible exact gIsi_ll _
    | with_reducible exact gIsi_ii _
    | with_reducible exact gIsi_ib _
    | with_reducible exact len_map _ _
    | with_reducible exact gMax2_i _ _
    | with_reducible exact gSum_int _
    | with_reducible exact gEq_int _ _
    | with_reducible exact gNe_int _ _
    | with_reducible exact gEq_ints _ _
    | ((with_reducible apply gCmp_oL); assumption)
    | ((with_reducible apply gCmp_oR); assumption)
    | ((with_reducible apply gCmp_oL'); assumption)
    | ((with_reducible apply gCmp_oR'); assumption)
    | ((with_reducible apply gEq_mt) <;> (intro a; first | exact pl_i _ | exact dep_i _ | exact optT_pl _ | exact dep_o _))
    | ((with_reducible apply gNe_mt) <;> (intro a; first | exact pl_i _ | exact dep_i _ | exact optT_pl _ | exact dep_o _))
    | ((with_reducible apply gDix0); assumption)
    | with_reducible exact gDix_rng _ rfl (List.mem_range.mp hc)
    | with_reducible exact optT_flat _
    | with_reducible exact gNe_ints _ _
    | with_reducible exact gInA_int _ _
    | with_reducible exact gNin_int _ _
    | with_reducible exact nil_map
    | with_reducible exact lit_map _ _
    | with_reducible exact enum_int _
    | with_reducible exact enum_rng _ _
    | (simp only [likeAt, Sl.like, frz, mvS, sl, List.getElem?_cons_zero, List.getElem?_cons_succ, List.set_cons_zero, List.set_cons_succ]; first | done | with_reducible exact rfl)
    | (simp only [gTE, gLE, List.length_set, List.length_cons, List.length_nil, Nat.reduceAdd, Nat.reduceLT, ite_true, reduceIte, List.set_cons_zero, List.set_cons_succ]; first | done | with_reducible exact rfl)
    | ((with_reducible apply natlit); exact rfl)
    | (simp only [ini, iniI, List.map_cons, List.map_nil, List.length_cons, List.length_nil, Nat.reduceAdd, Nat.reduceSub, List.replicate, List.cons_append, List.nil_append]; first | done | with_reducible exact rfl)
    | ((with_reducible apply small_of); simp only [List.length_cons, List.length_nil]; decide)
    | ((simp only [List.length_cons, List.length_nil, List.length_set, Nat.reduceAdd, Nat.reduceLT, Nat.reduceLeDiff]); done)
    | ((simp only [List.length_cons, List.length_nil]); decide)
    | with_reducible exact rfl
    | decide))
abbrev rowT (l : List Int) : T := .lst (l.map T.int)
theorem len_int (l : List Int) : gLenA [rowT l] = some (.int (l.length : Nat)) := len_map _ _
theorem gMax2_int (a b : Int) : gMax2 [.int a, .int b] = some (.int (max a b)) := gMax2_i a b
/-! ### draws -/
/-- the drawing list, at most n draws done -/
structure Gk (n : Nat) (g : T) : Prop where
  ex : ∃ a b c : Int, g = .lst [.int a, .int b, .int c] ∧ Nn 31 b ∧ 0 ≤ c ∧ c ≤ n
theorem Gk.mono {n m : Nat} {g : T} (h : Gk n g) (hm : n ≤ m) : Gk m g := by
  obtain ⟨a, b, c, e, hb, h0, h1⟩ := h.ex
  exact ⟨a, b, c, e, hb, h0, by omega⟩
theorem e_hash {b c : Int} (hb : Nn 31 b) (hc : Nn 40 c) : ∃ v, m__law_hash [.int b, .int c] = .ok (.int v) ∧ Nn 31 v := by
  have k1 : Nn 21 1140671 := ⟨by decide, by decide⟩
  have k2 : Nn 25 27644437 := ⟨by decide, by decide⟩
  have k3 : Nn 8 131 := ⟨by decide, by decide⟩
  have k4 : Nn 16 62089 := ⟨by decide, by decide⟩
  have k5 : Nn 16 48271 := ⟨by decide, by decide⟩
  generalize hx : (b * 1140671 + 27644437 * c * c + 131 * c + 19) % 2147483629 = x
  have nx : Nn 31 x := by rw [← hx]; exact Nn.mod (by decide) (by decide)
  generalize hy : (x * x + 62089 * c + 32416187) % 2147483587 = y
  have ny : Nn 31 y := by rw [← hy]; exact Nn.mod (by decide) (by decide)
  refine ⟨y * 48271 % 2147483647, ?_, Nn.mod (by decide) (by decide)⟩
  have s1 : pOp gMod (pF gInt1 (pCons (pOp gAdd (pOp gAdd (pOp gAdd (pOp TL.gMul (pV 0) (pC (.int 1140671))) (pOp TL.gMul (pOp TL.gMul (pC (.int 27644437)) (pV 1)) (pV 1))) (pOp TL.gMul (pC (.int 131)) (pV 1))) (pC (.int 19))) pNil)) (pC (.int 2147483629)) [some (.int b), some (.int c), none] = .ok (.int x) := by
    rw [← hx]
    exact op_ok (f_ok (one_ok (op_ok (op_ok (op_ok (op_ok rfl rfl (gMul_nn hb k1 (by decide))) (op_ok (op_ok rfl rfl (gMul_nn k2 hc (by decide))) rfl (gMul_nn (k2.mul hc) hc (by decide))) rfl) (op_ok rfl rfl (gMul_nn k3 hc (by decide))) rfl) rfl rfl)) rfl) rfl (gMod_int (by decide))
  have s2 : pOp gMod (pF gInt1 (pCons (pOp gAdd (pOp gAdd (pOp TL.gMul (pV 2) (pV 2)) (pOp TL.gMul (pC (.int 62089)) (pV 1))) (pC (.int 32416187))) pNil)) (pC (.int 2147483587)) [some (.int b), some (.int c), some (.int x)] = .ok (.int y) := by
    rw [← hy]
    exact op_ok (f_ok (one_ok (op_ok (op_ok (op_ok rfl rfl (gMul_nn nx nx (by decide))) (op_ok rfl rfl (gMul_nn k4 hc (by decide))) rfl) rfl rfl)) rfl) rfl (gMod_int (by decide))
  have s3 : pOp gMod (pF gInt1 (pCons (pOp TL.gMul (pV 2) (pC (.int 48271))) pNil)) (pC (.int 2147483647)) [some (.int b), some (.int c), some (.int y)] = .ok (.int (y * 48271 % 2147483647)) :=
    op_ok (f_ok (one_ok (op_ok rfl rfl (gMul_nn ny k5 (by decide)))) rfl) rfl (gMod_int (by decide))
  exact runP_rt (k' := false) rfl (seq_nx (asg_nx (liftS_ok s1) (show 2 < 3 by decide)) (seq_nx (asg_nx (liftS_ok s2) (show 2 < 3 by decide)) (ret_rt (liftS_ok s3)))) rfl
theorem e_random {n : Nat} {g : T} {B : Int} (h : Gk n g) (hn : n ≤ 1000000000) (h1 : 1 ≤ B) (h2 : B ≤ 1000000) : ∃ r g', m__law_random g [.int B] = .ok (.int r, g') ∧ 0 ≤ r ∧ r < B ∧ Gk (n + 1) g' := by
  obtain ⟨a, b, c, rfl, hb, hc0, hc1⟩ := h.ex
  by_cases ha : 0 < a
  · refine ⟨a % B, .lst [.int (a / B), .int b, .int c], ?_, Int.emod_nonneg _ (by omega), Int.emod_lt_of_pos _ (by omega), ⟨_, _, _, rfl, hb, hc0, by omega⟩⟩
    have t1 : liftVT (pB (gCmp fun i j => decide (j < i)) (pOp gDix (pV 0) (pC (.int 0))) (pC (.int 0))) (iniI 4 (.lst [.int a, .int b, .int c]) [.int B]) = .ok true (iniI 4 (.lst [.int a, .int b, .int c]) [.int B]) := by
      apply liftVT_ok
      show PR.ok (decide (0 < a)) = _
      rw [decide_eq_true ha]
    have t2 : liftV (pOp gMod (pF gInt1 (pCons (pOp gDix (pV 0) (pC (.int 0))) pNil)) (pV 1)) (iniI 4 (.lst [.int a, .int b, .int c]) [.int B]) = .ok (.int (a % B)) (iniI 4 (.lst [.int a, .int b, .int c]) [.int B]) :=
      liftV_ok (op_ok (f_ok (one_ok rfl) rfl) rfl (gMod_int (by omega))) rfl
    exact runI_rt (k' := false) rfl (seq_rt (if_t t1 (seq_nx (asg_nx t2 (show 2 < 4 by decide)) (seq_nx (set_nx (u' := .lst [.int (a / B), .int b, .int c]) rfl (liftV_ok (op_ok rfl rfl (gDiv_int (by omega) (by omega))) rfl) rfl rfl rfl) (ret_rt rfl))))) rfl rfl
  · have hc' : Nn 40 (c + 1) := ⟨by omega, by have : (2 : Int) ^ 40 = 1099511627776 := by decide
                                              omega⟩
    obtain ⟨v, hv, nv⟩ := e_hash hb hc'
    refine ⟨v % B, .lst [.int a, .int b, .int (c + 1)], ?_, Int.emod_nonneg _ (by omega), Int.emod_lt_of_pos _ (by omega), ⟨_, _, _, rfl, hb, by omega, by omega⟩⟩
    have t1 : liftVT (pB (gCmp fun i j => decide (j < i)) (pOp gDix (pV 0) (pC (.int 0))) (pC (.int 0))) (iniI 4 (.lst [.int a, .int b, .int c]) [.int B]) = .ok false (iniI 4 (.lst [.int a, .int b, .int c]) [.int B]) := by
      apply liftVT_ok
      show PR.ok (decide (0 < a)) = _
      rw [decide_eq_false ha]
    have hbits : Builtin.Int.intBits B ≤ 20 := Nn.bits ⟨by omega, by have : (2 : Int) ^ 20 = 1048576 := by decide
                                                                     omega⟩
    have hr : liftS (pRng1 (pCons (pOp gAdd (pC (.int 1)) (pOp gDiv (pU gBits (pV 1)) (pC (.int 30)))) pNil)) [.io (.lst [.int a, .int b, .int c]), .gd .old (.int B), .fz (.int 0), .un] = .ok [.int 0] [.io (.lst [.int a, .int b, .int c]), .gd .old (.int B), .fz (.int 0), .un] := by
      refine liftS_ok (rng1_ok (n := 1) (one_ok (op_ok rfl (op_ok rfl rfl (gDiv_int (by decide) (by decide))) ?_)) (by decide))
      show some (T.int (1 + (Builtin.Int.intBits B : Int) / 30)) = _
      have : (Builtin.Int.intBits B : Int) / 30 = 0 := by omega
      rw [this]; rfl
    have body : sSeq (sSet 0 (liftV (pOp gAdd (pOp gDix (pV 0) (pC (.int 2))) (pC (.int 1)))) (liftS (pC (.int 2)))) (sAsg 2 false (liftV (pOp gAdd (pOp TL.gMul (pV 2) (pC (.int 2147483587))) (pCall m__law_hash (pCons (pOp gDix (pV 0) (pC (.int 1))) (pCons (pOp gDix (pV 0) (pC (.int 2))) pNil))))))
        [.io (.lst [.int a, .int b, .int c]), .gd .old (.int B), .fz (.int 0), .fz (.int 0)] = .nx [.io (.lst [.int a, .int b, .int (c + 1)]), .gd .old (.int B), .fz (.int v), .fz (.int 0)] := by
      have e0 : gAdd (.int (0 * 2147483587)) (.int v) = some (.int v) := by show some (T.int (0 * 2147483587 + v)) = _; rw [Int.zero_mul, Int.zero_add]
      exact seq_nx (set_nx (u' := .lst [.int a, .int b, .int (c + 1)]) rfl (liftV_ok rfl rfl) rfl rfl rfl) (asg_nx (liftV_ok (op_ok (op_ok rfl rfl (gMul_nn (j := 1) (k := 31) ⟨by decide, by decide⟩ ⟨by decide, by decide⟩ (by decide))) (call_ok rfl hv) e0) rfl) (show 2 < 4 by decide))
    have loop : forGo (gNE 3) (sSeq (sSet 0 (liftV (pOp gAdd (pOp gDix (pV 0) (pC (.int 2))) (pC (.int 1)))) (liftS (pC (.int 2)))) (sAsg 2 false (liftV (pOp gAdd (pOp TL.gMul (pV 2) (pC (.int 2147483587))) (pCall m__law_hash (pCons (pOp gDix (pV 0) (pC (.int 1))) (pCons (pOp gDix (pV 0) (pC (.int 2))) pNil)))))))
        [.int 0] [.io (.lst [.int a, .int b, .int c]), .gd .old (.int B), .fz (.int 0), .un] = .nx [.io (.lst [.int a, .int b, .int (c + 1)]), .gd .old (.int B), .fz (.int v), .fz (.int 0)] := by
      exact forGo_one rfl body
    exact runI_rt (k' := false) rfl (seq_nx (if_f t1 rfl) (seq_nx rfl (seq_nx (for_nx hr loop) (ret_rt (liftS_ok (op_ok (f_ok (one_ok rfl) rfl) rfl (gMod_int (by omega)))))))) rfl rfl
theorem e_order {n : Nat} {g : T} {L : List Int} (h : Gk n g) (hn : n ≤ 900000000) (hL : L.length ≤ 60) : ∃ L' g', m__law_drawn_order g [rowT L] = .ok (rowT L', g') ∧ L'.Perm L ∧ Gk (n + 60) g' := by
  obtain ⟨ρ', e, q⟩ := whGo_inv (t := liftVT (pB gNe (pV 2) (pLst pNil))) (body := sApp 3 (popAt 2 (eIo 0 m__law_random (eCons (liftV (pF gLenA (pCons (pV 2) pNil))) eNil))))
    (fun m ρ => ∃ (left found : List Int) (g : T), ρ = [.io g, .gd .old (rowT L), .ow (rowT left), .ow (rowT found)] ∧ left.length = m ∧ (found ++ left).Perm L ∧ Gk (n + found.length) g)
    (fun ρ => ∃ (found : List Int) (g : T), ρ = [.io g, .gd .old (rowT L), .ow (rowT []), .ow (rowT found)] ∧ found.Perm L ∧ Gk (n + found.length) g) L.length 100 [.io g, .gd .old (rowT L), .ow (rowT L), .ow (rowT [])] (by omega)
    ⟨L, [], g, rfl, rfl, List.Perm.refl _, h⟩ fun m ρ ⟨left, found, g, eρ, hm, hp, hg⟩ => by
      subst eρ
      have hlen := hp.length_eq
      rw [List.length_append] at hlen
      have ht : liftVT (pB gNe (pV 2) (pLst pNil)) [.io g, .gd .old (rowT L), .ow (rowT left), .ow (rowT found)] = .ok (!decide (left = [])) [.io g, .gd .old (rowT L), .ow (rowT left), .ow (rowT found)] :=
        liftVT_ok (b_ok rfl rfl (gNe_ints left []))
      cases left with
      | nil =>
        refine .inl ⟨_, ht, found, g, rfl, ?_, hg⟩
        rw [List.append_nil] at hp; exact hp
      | cons x left =>
        refine .inr ⟨m - 1, by rw [List.length_cons] at hm; omega, _, ht, ?_⟩
        obtain ⟨r, g', hr, r0, r1, hg'⟩ := e_random (B := ((x :: left).length : Nat)) hg (by omega) (by rw [List.length_cons]; omega) (by omega)
        obtain ⟨k, rfl⟩ := Int.eq_ofNat_of_zero_le r0
        have hk : k < (x :: left).length := by omega
        have hx : (x :: left)[k]? = some (x :: left)[k] := List.getElem?_eq_getElem hk
        have hio : eIo 0 m__law_random (eCons (liftV (pF gLenA (pCons (pV 2) pNil))) eNil) [.io g, .gd .old (rowT L), .ow (rowT (x :: left)), .ow (rowT found)] = .ok (.int (k : Int)) [.io g', .gd .old (rowT L), .ow (rowT (x :: left)), .ow (rowT found)] :=
          eIo_ok rfl (eOne_ok (liftV_ok (f_ok (one_ok rfl) (len_int _)) rfl)) rfl hr
        have hpop := pop_ok (j := 2) (ρ := [.io g, .gd .old (rowT L), .ow (rowT (x :: left)), .ow (rowT found)]) (y := .int (x :: left)[k]) rfl hio rfl (small_of (by rw [List.length_map]; omega)) (by rw [List.length_map]; exact ixN_nat hk) (by rw [List.getElem?_map, hx]; rfl)
        rw [map_eraseIdx] at hpop
        refine ⟨_, app_nx rfl hpop rfl (by rw [List.length_map]; omega), (x :: left).eraseIdx k, found ++ [(x :: left)[k]], g', ?_, ?_, ?_, ?_⟩
        · have em : (found ++ [(x :: left)[k]]).map T.int = found.map T.int ++ [T.int (x :: left)[k]] := by rw [List.map_append]; rfl
          rw [← em]; rfl
        · have := (TL.erase_perm _ _ _ hx).length_eq
          simp only [List.length_cons] at this hm ⊢
          omega
        · rw [List.append_assoc]
          exact (List.Perm.append_left found (TL.erase_perm _ _ _ hx).symm).trans hp
        · rw [List.length_append, List.length_singleton]; exact hg'.mono (by omega)
  obtain ⟨found, g', eρ, hp, hg⟩ := q
  subst eρ
  refine ⟨found, g', ?_, hp, hg.mono (by have := hp.length_eq; omega)⟩
  exact runI_rt (k' := true) (ρ := [.io g', .gd .old (rowT L), .fz (rowT []), .un]) rfl (seq_nx rfl (seq_nx e rfl)) rfl rfl
theorem lr26 : pLR1 (pC (.int 26)) [] = .ok (rowT ((List.range 26).map fun (i : Nat) => (i : Int))) := by
  show (if (0 : Int) ≤ 26 ∧ (26 : Int) ≤ 16777216 then PR.ok (T.lst (rngT 0 (26 : Int).toNat)) else PR.bad) = _
  rw [if_pos (by decide)]
  rfl
/-- a draw of one's own slot -/
theorem draw_ok {n : Nat} {g : T} {ρ : SE} {B : Int} {f : SE → R T} (h : Gk n g) (hn : n ≤ 1000000000) (h1 : 1 ≤ B) (h2 : B ≤ 1000000) (hρ : ∃ t, ρ = .io g :: t) (hf : f ρ = .ok (.int B) ρ) :
    ∃ r g', eIo 0 m__law_random (eCons f eNil) ρ = .ok (.int r) (.io g' :: ρ.tail) ∧ 0 ≤ r ∧ r < B ∧ Gk (n + 1) g' := by
  obtain ⟨t, rfl⟩ := hρ
  obtain ⟨r, g', hr, r0, r1, hg'⟩ := e_random h hn h1 h2
  exact ⟨r, g', eIo_ok rfl (eOne_ok hf) rfl hr, r0, r1, hg'⟩
/-! ### the drawing list at first -/
theorem e_cell (ns : List Int) (k : Nat) (hk : k ≤ 2) : ∃ s, m__law_cell [.scr (ns.map T.int), .int (k : Int)] = .ok (.int s) := by
  have hl : gLenA [.scr (ns.map T.int)] = some (.int (ns.length : Nat)) := by
    show some (T.int ((ns.map T.int).length : Nat)) = _
    rw [List.length_map]
  have t : liftS (pB (gCmp fun i j => decide (i < j)) (pV 1) (pF gLenA (pCons (pV 0) pNil))) [.gd .old (.scr (ns.map T.int)), .gd .old (.int (k : Int))] = .ok (decide (k < ns.length)) [.gd .old (.scr (ns.map T.int)), .gd .old (.int (k : Int))] := by
    refine liftS_ok (b_ok rfl (f_ok (one_ok rfl) hl) ?_)
    show some (decide ((k : Int) < (ns.length : Nat))) = _
    congr 1
    exact decide_eq_decide.mpr (by omega)
  by_cases h : k < ns.length
  · rw [decide_eq_true h] at t
    exact ⟨ns[k], runP_rt (k' := false) rfl (seq_rt (if_t t (ret_rt (liftS_ok (op_ok rfl rfl (atI_nat (j := k) (by rw [List.getElem?_map, List.getElem?_eq_getElem h]; rfl))))))) rfl⟩
  · rw [decide_eq_false h] at t
    cases ns with
    | nil => exact ⟨0, runP_rt (k' := false) rfl (seq_nx (if_f t rfl) rfl) rfl⟩
    | cons x ns =>
      have e1 : pSl (pV 0) pNoPart (pPart (pC (.int 1))) [some (.scr ((x :: ns).map T.int)), some (.int (k : Int))] = .ok (rowT [x]) := by
        show PR.of (some (T.lst (cutT ((x :: ns).map T.int) none (some 1)))) = _
        rw [cut_map]
        show PR.ok (T.lst ((List.take (HT.sIx (x :: ns).length (x :: ns).length (some 1) - 0) (List.drop 0 (x :: ns))).map T.int)) = _
        rw [sIx_pos (by decide) (by rw [List.length_cons]; omega)]
        rfl
      exact ⟨([x] : List Int).sum % 1000003, runP_rt (k' := false) rfl (seq_nx (if_f t rfl) (ret_rt (liftS_ok (op_ok (f_ok (one_ok e1) (gSum_int [x])) rfl (gMod_int (by decide)))))) rfl⟩
theorem e_generator (ns : List Int) (k : Nat) (hk : k ≤ 2) : ∃ g, m__law_generator [.scr (ns.map T.int), .int (k : Int)] = .ok g ∧ Gk 2000 g := by
  obtain ⟨s, hs⟩ := e_cell ns k hk
  refine ⟨.lst [.int (max (s - 10 ^ (18 : Int).toNat) 0 % ((10 ^ (60 : Int).toNat) ^ (10 : Int).toNat)), .int (s % 2147483647), .int (1000 * (k : Int))], ?_, ⟨_, _, _, rfl, Nn.mod (by decide) (by decide), by omega, by omega⟩⟩
  have g1 : gPow (.int 10) (.int 18) = some (.int (10 ^ (18 : Int).toNat)) := gPow_c (by decide +kernel)
  have g2 : gPow (.int 10) (.int 60) = some (.int (10 ^ (60 : Int).toNat)) := gPow_c (by decide +kernel)
  have g3 : gPow (.int (10 ^ (60 : Int).toNat)) (.int 10) = some (.int ((10 ^ (60 : Int).toNat) ^ (10 : Int).toNat)) := gPow_c (by decide +kernel)
  have hp : (0 : Int) < (10 ^ (60 : Int).toNat) ^ (10 : Int).toNat := Int.pow_pos (Int.pow_pos (by decide))
  have h22 : (2 : Int) ^ 2 = 4 := by decide
  have nk : Nn 2 (k : Int) := ⟨by omega, by rw [h22]; omega⟩
  have n1000 : Nn 10 1000 := ⟨by decide, by decide⟩
  have gm : TL.gMul (.int 1000) (.int (k : Int)) = some (.int (1000 * (k : Int))) := gMul_nn n1000 nk (by decide)
  exact runP_rt (k' := true) rfl (seq_nx (asg_nx (liftS_ok (call_ok rfl hs)) (show 2 < 3 by decide)) (ret_rt (liftS_ok (lst_ok (cons_ok (op_ok (f_ok (one_ok (f_ok (cons_ok (op_ok rfl (op_ok rfl rfl g1) rfl) (one_ok rfl)) (gMax2_int _ _))) rfl) (op_ok (op_ok rfl rfl g2) rfl g3) (gMod_int hp)) (cons_ok (op_ok (f_ok (one_ok rfl) rfl) rfl (gMod_int (by decide))) (one_ok (op_ok rfl rfl gm)))) rfl)))) rfl
end K27

set_option Elab.async false
set_option linter.all false
set_option maxRecDepth 100000
set_option maxHeartbeats 4000000
namespace K27
open PySem TL L2
set_option hygiene false in
local macro_rules
  | `(tactic| exists $ts,*) => `(tactic| repeat' (first
    $[| with_reducible exact $ts]*
    | ((with_reducible intro hc); first | (cases hc; done) | skip)
    | with_reducible exact c_ok
    | ((with_reducible apply v_ok); exact rfl)
    | with_reducible exact nil_ok
    | with_reducible exact x_noPart
    | with_reducible apply liftS_ok
    | with_reducible apply cons_ok
    | with_reducible apply op_ok
    | with_reducible apply b_ok
    | with_reducible apply f_ok
    | with_reducible apply u_ok
    | with_reducible apply call_ok
    | with_reducible apply x_and
    | with_reducible apply x_or
    | with_reducible apply x_andV
    | with_reducible apply x_orV
    | with_reducible apply x_notV
    | with_reducible apply x_not
    | with_reducible apply x_if
    | with_reducible apply x_ch
    | with_reducible apply x_isN
    | with_reducible apply x_notN
    | with_reducible apply x_lst
    | with_reducible apply x_tup
    | with_reducible apply x_itL
    | with_reducible apply x_itT
    | with_reducible apply x_enum
    | with_reducible apply x_rng1
    | with_reducible apply x_rng2
    | ((with_reducible apply y_lc0); exact rfl; (with_reducible exact rfl))
    | with_reducible apply y_lcA
    | with_reducible apply y_lc
    | ((with_reducible apply lcA_in); (intro a; exact rfl))
    | ((with_reducible apply lcS_in); (intro a; exact rfl))
    | with_reducible apply x_sl
    | with_reducible apply x_part
    | with_reducible apply x_truB
    | with_reducible apply x_ofB
    | with_reducible apply x_lm
    | with_reducible apply x_lr1
    | with_reducible apply x_lr2
    | with_reducible apply w_seq
    | with_reducible apply qs_frz
    | with_reducible apply qs_nx
    | with_reducible apply qs_rt
    | with_reducible apply qs_bk
    | with_reducible apply qs_ct
    | with_reducible apply ql_nx
    | with_reducible apply ql_ct
    | with_reducible apply ql_bk
    | with_reducible apply ql_rt
    | with_reducible apply qp_rt
    | with_reducible apply qp_nx
    | with_reducible apply w_nx
    | with_reducible apply w_bk
    | with_reducible apply w_ct
    | with_reducible apply w_if
    | with_reducible apply w_asgLc
    | with_reducible apply w_asg
    | with_reducible apply w_app
    | with_reducible apply w_set
    | with_reducible apply w_par
    | with_reducible apply w_par3
    | with_reducible apply w_tup
    | with_reducible apply w_drop
    | with_reducible apply w_ret
    | with_reducible apply w_for
    | ((with_reducible apply qi_rt); exact rfl)
    | ((with_reducible apply qi_nx); exact rfl)
    | with_reducible exact eNil_ok
    | with_reducible exact y_noPart
    | with_reducible apply y_part
    | with_reducible apply y_sl
    | with_reducible apply y_u
    | with_reducible apply y_ofB
    | with_reducible apply y_if
    | with_reducible apply eNot_ok
    | with_reducible apply eTru_ok
    | with_reducible apply y_rng1
    | with_reducible apply liftVT_ok
    | with_reducible apply liftV_ok
    | with_reducible exact flat_i _
    | with_reducible exact flat_n
    | with_reducible exact flat_b _
    | with_reducible exact flat_s _
    | with_reducible apply x_eLst
    | with_reducible apply x_eTup
    | with_reducible apply eOp_ok
    | with_reducible apply eB_ok
    | with_reducible apply eF_ok
    | with_reducible apply eCons_ok
    | with_reducible apply eCall_ok
    | with_reducible apply x_eIo
    | ((with_reducible apply own_ok); exact rfl)
    | with_reducible exact gAdd_i _ _
    | with_reducible exact gSub_i _ _
    | with_reducible exact gNeg_i _
    | with_reducible exact gCmp_i _ _ _
    | with_reducible exact gInt1_i _
    | with_reducible exact gIsi_ll _
    | with_reducible exact gIsi_ii _
    | with_reducible exact gIsi_ib _
    | with_reducible exact len_map _ _
    | with_reducible exact gMax2_i _ _
    | with_reducible exact gSum_int _
    | with_reducible exact gEq_int _ _
    | with_reducible exact gNe_int _ _
    | with_reducible exact gEq_ints _ _
    | ((with_reducible apply gCmp_oL); assumption)
    | ((with_reducible apply gCmp_oR); assumption)
    | ((with_reducible apply gCmp_oL'); assumption)
    | ((with_reducible apply gCmp_oR'); assumption)
    | ((with_reducible apply gEq_mt) <;> (intro a; first | exact pl_i _ | exact dep_i _ | exact optT_pl _ | exact dep_o _))
    | ((with_reducible apply gNe_mt) <;> (intro a; first | exact pl_i _ | exact dep_i _ | exact optT_pl _ | exact dep_o _))
    | ((with_reducible apply gDix0); assumption)
    | with_reducible exact gDix_rng _ rfl (List.mem_range.mp hc)
    | with_reducible exact optT_flat _
    | with_reducible exact gNe_ints _ _
    | with_reducible exact gInA_int _ _
    | with_reducible exact gNin_int _ _
    | with_reducible exact nil_map
    | with_reducible exact lit_map _ _
    | with_reducible exact enum_int _
    | with_reducible exact enum_rng _ _
    | (simp only [likeAt, Sl.like, frz, mvS, sl, List.getElem?_cons_zero, List.getElem?_cons_succ, List.set_cons_zero, List.set_cons_succ]; first | done | with_reducible exact rfl)
    | (simp only [gTE, gLE, List.length_set, List.length_cons, List.length_nil, Nat.reduceAdd, Nat.reduceLT, ite_true, reduceIte, List.set_cons_zero, List.set_cons_succ]; first | done | with_reducible exact rfl)
    | ((with_reducible apply natlit); exact rfl)
    | (simp only [ini, iniI, List.map_cons, List.map_nil, List.length_cons, List.length_nil, Nat.reduceAdd, Nat.reduceSub, List.replicate, List.cons_append, List.nil_append]; first | done | with_reducible exact rfl)
    | ((with_reducible apply small_of); simp only [List.length_cons, List.length_nil]; decide)
    | ((simp only [List.length_cons, List.length_nil, List.length_set, Nat.reduceAdd, Nat.reduceLT, Nat.reduceLeDiff]); done)
    | ((simp only [List.length_cons, List.length_nil]); decide)
    | with_reducible exact rfl
    | decide))
structure Rw (R : List Int) : Prop where
  lo : 1 ≤ R.length
  hi : R.length ≤ 60
  el : ∀ x ∈ R, 0 ≤ x ∧ x < 26
theorem e_pick {n : Nat} {g : T} {L : List Int} (h : Gk n g) (hn : n ≤ 900000000) (h1 : 1 ≤ L.length) (h2 : L.length ≤ 1000) : ∃ t u, m__law_pick g [rowT L] = .ok (t, u) ∧ (∃ x ∈ L, t = .int x) ∧ Gk (n + 1) u := by
  obtain ⟨r, g', e, r0, r1, hg⟩ := e_random (B := (L.length : Nat)) h (by omega) (by omega) (by omega)
  obtain ⟨k, rfl⟩ := Int.eq_ofNat_of_zero_le r0
  refine runI_w (g := g__law_pick) rfl ?_; apply Exists.intro; apply And.intro; (simp only [ini, iniI, List.map_cons, List.map_nil, List.length_cons, List.length_nil, Nat.reduceAdd, Nat.reduceSub, List.replicate, List.cons_append, List.nil_append]; with_reducible exact rfl); unfold g__law_pick
  exists e
  · exact gIx_int (by omega)
  · have hk : k < L.length := by omega
    refine ⟨⟨L.getD k 0, ?_, rfl⟩, hg⟩
    rw [List.getD_eq_getElem?_getD, List.getElem?_eq_getElem hk]
    exact List.getElem_mem hk
theorem order26 {O : List Int} (h : O.Perm ((List.range 26).map fun (i : Nat) => (i : Int))) : O.length = 26 ∧ ∀ x ∈ O, 0 ≤ x ∧ x < 26 := by
  refine ⟨by rw [h.length_eq]; rfl, fun x hx => ?_⟩
  obtain ⟨i, hi, rfl⟩ := List.mem_map.mp (h.mem_iff.mp hx)
  have := List.mem_range.mp hi
  omega
theorem cut_to {l : List Int} {e : Int} (h0 : 0 ≤ e) (h1 : e ≤ l.length) : cutT (l.map T.int) none (some e) = (l.take e.toNat).map T.int := by
  rw [cut_map, sIx_pos h0 h1]; rfl
theorem gDix_at {l : List Int} {k : Int} (h0 : 0 ≤ k) (h1 : k < l.length) : gDix (rowT l) (.int k) = some (.int (l.getD k.toNat 0)) := gDix_int (by omega) (by omega)
theorem gIx_at {l : List Int} {k : Int} (h0 : 0 ≤ k) (h1 : k < l.length) : gIx (rowT l) (.int k) = some (.int (l.getD k.toNat 0)) := gDix_at h0 h1
theorem getD_mem {l : List Int} {k : Nat} (h : k < l.length) : l.getD k 0 ∈ l := by
  rw [List.getD_eq_getElem?_getD, List.getElem?_eq_getElem h]; exact List.getElem_mem h
theorem ints_of {rs : List T} {n : Nat} {p : Int → Prop} (hl : rs.length = n) (h : ∀ (i : Nat) y, rs[i]? = some y → ∃ x : Int, y = .int x ∧ p x) : ∃ R : List Int, rs = R.map T.int ∧ R.length = n ∧ ∀ x ∈ R, p x := by
  induction rs generalizing n with
  | nil => exact ⟨[], rfl, hl, fun x hx => by cases hx⟩
  | cons y rs ih =>
    obtain ⟨x, rfl, hx⟩ := h 0 y rfl
    obtain ⟨R, rfl, hR, hp⟩ := ih (n := n - 1) (by rw [List.length_cons] at hl; omega) fun i z hz => h (i + 1) z (by simpa using hz)
    refine ⟨x :: R, rfl, by rw [List.length_cons] at hl ⊢; omega, fun z hz => ?_⟩
    rcases List.mem_cons.mp hz with hz | hz
    · rw [hz]; exact hx
    · exact hp z hz
theorem e_drawn_row {n : Nat} {g : T} {M : Int} (h : Gk n g) (hn : n ≤ 800000000) (h1 : 1 ≤ M) (h2 : M ≤ 60) : ∃ t u, m__law_drawn_row g [.int M] = .ok (t, u) ∧ (∃ R, Rw R ∧ t = rowT R) ∧ Gk (n + 500) u := by
  obtain ⟨sz, g1, e1, s0, s1, hg1⟩ := e_random (B := M) h (by omega) (by omega) (by omega)
  obtain ⟨ty, g2, e2, ⟨many, hm, rfl⟩, hg2⟩ := e_pick (L := [2, 3, 4, 6, 10]) hg1 (by omega) (by decide) (by decide)
  obtain ⟨way, g3, e3, w0, w1, hg3⟩ := e_random (B := 4) hg2 (by omega) (by omega) (by omega)
  obtain ⟨O, g4, e4, hp, hg4⟩ := e_order (L := (List.range 26).map fun (i : Nat) => (i : Int)) hg3 (by omega) (by decide)
  obtain ⟨hO, hOe⟩ := order26 hp
  have hmany : 2 ≤ many ∧ many ≤ 10 := by
    simp only [List.mem_cons, List.not_mem_nil, or_false] at hm
    omega
  obtain ⟨k, hk⟩ := Int.eq_ofNat_of_zero_le (show 0 ≤ 1 + sz by omega)
  have hk2 : k ≤ 60 := by omega
  have hk3 : 1 ≤ k := by omega
  have hl : (O.take many.toNat).length = many.toNat := by rw [List.length_take]; omega
  have hel : ∀ x ∈ O.take many.toNat, 0 ≤ x ∧ x < 26 := fun x hx => hOe x (List.mem_of_mem_take hx)
  have e2 : m__law_pick g1 [.lst [.int 2, .int 3, .int 4, .int 6, .int 10]] = .ok (.int many, g2) := e2
  have e4 : m__law_drawn_order g3 [.lst ((List.range 26).map fun (i : Nat) => T.int (i : Int))] = .ok (rowT O, g4) := e4
  have hcut : T.lst (cutT (O.map T.int) none (some many)) = rowT (O.take many.toNat) := by rw [cut_to (by omega) (by omega)]
  have hkl : k ≤ 1000000 := by omega
  have hkr : (List.range k).length ≤ 1000000 := by rw [List.length_range]; omega
  have hks : small ((List.range k).map fun (i : Nat) => T.int (i : Int)) = true := small_of (by rw [List.length_map, List.length_range]; omega)
  have hmod : ∀ x : Int, gMod (.int x) (.int many) = some (.int (x % many)) := fun x => gMod_int (by omega)
  have hix : ∀ x : Int, 0 ≤ x → x < many → gDix (rowT (O.take many.toNat)) (.int x) = some (.int ((O.take many.toNat).getD x.toNat 0)) := fun x a b => gDix_at a (by omega)
  have hin : ∀ x : Int, 0 ≤ x → x < many → 0 ≤ (O.take many.toNat).getD x.toNat 0 ∧ (O.take many.toNat).getD x.toNat 0 < 26 := fun x a b => hel _ (getD_mem (by omega))
  refine runI_w (g := g__law_drawn_row) rfl ?_; apply Exists.intro; apply And.intro; (simp only [ini, iniI, List.map_cons, List.map_nil, List.length_cons, List.length_nil, Nat.reduceAdd, Nat.reduceSub, List.replicate, List.cons_append, List.nil_append]; with_reducible exact rfl); unfold g__law_drawn_row
  exists e1, e2, e3, e4, hk, hcut, hkl, hkr, hks, hmod _, hix _ (Int.emod_nonneg _ (by omega)) (Int.emod_lt_of_pos _ (by omega))
  · refine ⟨⟨(List.range k).map fun (i : Nat) => (O.take many.toNat).getD ((i : Int) % many).toNat 0, ⟨by rw [List.length_map, List.length_range]; omega, by rw [List.length_map, List.length_range]; omega, fun x hx => ?_⟩, by rw [rowT, List.map_map]; rfl⟩, hg4.mono (by omega)⟩
    obtain ⟨i, _, rfl⟩ := List.mem_map.mp hx
    exact hin _ (Int.emod_nonneg _ (by omega)) (Int.emod_lt_of_pos _ (by omega))
  refine ⟨fun i ρ => ∃ g', ρ = [.io g', .gd .old (.int M), .fz (.int (1 + sz)), .fz (.int many), .fz (.int way), .fz (rowT (O.take many.toNat)), .un, .un] ∧ Gk (n + 100 + i) g',
    fun _ y => ∃ x : Int, y = .int x ∧ 0 ≤ x ∧ x < 26, ⟨g4, rfl, hg4.mono (by omega)⟩, ?_, ?_⟩
  · rintro i t ρ ht ⟨g5, rfl, hg5⟩
    obtain ⟨hi, rfl⟩ := List.getElem?_eq_some_iff.mp ht
    rw [List.length_map, List.length_range] at hi
    rw [List.getElem_map, List.getElem_range]
    obtain ⟨r, g6, e6, r0, r1, hg6⟩ := e_random (B := many) hg5 (by omega) (by omega) (by omega)
    have hx : gIx (rowT (O.take many.toNat)) (.int r) = some (.int ((O.take many.toNat).getD r.toNat 0)) := gIx_at r0 (by omega)
    refine ⟨_, rfl, .int ((O.take many.toNat).getD r.toNat 0), [.io g6, .gd .old (.int M), .fz (.int (1 + sz)), .fz (.int many), .fz (.int way), .fz (rowT (O.take many.toNat)), .fz (.int (i : Int)), .un], ?_, ⟨_, rfl, hin r r0 r1⟩, g6, rfl, hg6.mono (by omega)⟩
    exists e6, hx
  · rintro rs ρ' ⟨g5, rfl, hg5⟩ hl5 hE
    rw [List.length_map, List.length_range] at hl5 hg5
    obtain ⟨R, rfl, hR, hRe⟩ := ints_of (p := fun x => 0 ≤ x ∧ x < 26) hl5 fun i y hy => by
      have hi := (List.getElem?_eq_some_iff.mp hy).1
      exact hE i _ y (List.getElem?_eq_getElem (by rw [List.length_map, List.length_range]; omega)) hy
    refine ⟨show 7 < 8 by decide, ?_⟩
    have hRw : Rw R := ⟨by omega, by omega, hRe⟩
    have hat : ∀ x : Int, 0 ≤ x → x < k → gDix (rowT R) (.int x) = some (.int (R.getD x.toNat 0)) := fun x a b => gDix_at a (by omega)
    have hat' : ∀ x : Int, 0 ≤ x → x < k → gIx (rowT R) (.int x) = some (.int (R.getD x.toNat 0)) := hat
    have hatm : ∀ x : Int, 0 ≤ x → x < k → 0 ≤ R.getD x.toNat 0 ∧ R.getD x.toNat 0 < 26 := fun x a b => hRe _ (getD_mem (by omega))
    dsimp only [List.set_cons_zero, List.set_cons_succ, sl]
    exists hk, hkl, hks
    · refine ⟨fun i ρ => ∃ g', ρ = [.io g', .gd .old (.int M), .fz (.int (1 + sz)), .fz (.int many), .fz (.int way), .fz (rowT (O.take many.toNat)), .un, .fz (rowT R)] ∧ Gk (n + 200 + 2 * i) g',
        fun _ y => ∃ x : Int, y = .int x ∧ 0 ≤ x ∧ x < 26, ⟨g5, rfl, hg5.mono (by omega)⟩, ?_, ?_⟩
      · rintro i t ρ ht ⟨g6, rfl, hg6⟩
        obtain ⟨hi, rfl⟩ := List.getElem?_eq_some_iff.mp ht
        rw [List.length_map, List.length_range] at hi
        rw [List.getElem_map, List.getElem_range]
        obtain ⟨r, g7, e7, r0, r1, hg7⟩ := e_random (B := 3) hg6 (by omega) (by omega) (by omega)
        by_cases hr : 0 < r
        · refine ⟨_, rfl, .int (R.getD i 0), [.io g7, .gd .old (.int M), .fz (.int (1 + sz)), .fz (.int many), .fz (.int way), .fz (rowT (O.take many.toNat)), .fz (.int (i : Int)), .fz (rowT R)], ?_, ⟨_, rfl, hatm i (by omega) (by omega)⟩, g7, rfl, hg7.mono (by omega)⟩
          exists e7, gIx_int (l := R) (i := i) (by omega)
          all_goals first | exact absurd hr (of_decide_eq_false hc) | skip
        · obtain ⟨r2, g8, e8, r20, r21, hg8⟩ := e_random (B := 3) hg7 (by omega) (by omega) (by omega)
          refine ⟨_, rfl, .int (R.getD (max 0 ((i : Int) - 1 - r2)).toNat 0), [.io g8, .gd .old (.int M), .fz (.int (1 + sz)), .fz (.int many), .fz (.int way), .fz (rowT (O.take many.toNat)), .fz (.int (i : Int)), .fz (rowT R)], ?_, ⟨_, rfl, hatm _ (by omega) (by omega)⟩, g8, rfl, hg8.mono (by omega)⟩
          exists e7, e8, hat' _ (by omega) (by omega)
          all_goals first | exact absurd (of_decide_eq_true hc) hr | skip
      · rintro rs ρ' ⟨g6, rfl, hg6⟩ hl6 hE
        rw [List.length_map, List.length_range] at hl6 hg6
        obtain ⟨R', rfl, hR', hRe'⟩ := ints_of (p := fun x => 0 ≤ x ∧ x < 26) hl6 fun i y hy => by
          have hi := (List.getElem?_eq_some_iff.mp hy).1
          exact hE i _ y (List.getElem?_eq_getElem (by rw [List.length_map, List.length_range]; omega)) hy
        refine ⟨show 7 < 8 by decide, ?_⟩
        dsimp only [List.set_cons_zero, List.set_cons_succ, sl]
        exists hk
        exact ⟨⟨R', ⟨by omega, by omega, hRe'⟩, rfl⟩, hg6.mono (by omega)⟩
    · exact ⟨⟨R, hRw, rfl⟩, hg5.mono (by omega)⟩
end K27

set_option Elab.async false
set_option linter.all false
set_option maxRecDepth 100000
set_option maxHeartbeats 4000000
namespace K27
open PySem TL L2
set_option hygiene false in
local macro_rules
  | `(tactic| exists $ts,*) => `(tactic| repeat' (first
    $[| with_reducible exact $ts]*
    | ((with_reducible intro hc); first | (cases hc; done) | skip)
    | with_reducible exact c_ok
    | ((with_reducible apply v_ok); exact rfl)
    | with_reducible exact nil_ok
    | with_reducible exact x_noPart
    | with_reducible apply liftS_ok
    | with_reducible apply cons_ok
    | with_reducible apply op_ok
    | with_reducible apply b_ok
    | with_reducible apply f_ok
    | with_reducible apply u_ok
    | with_reducible apply call_ok
    | with_reducible apply x_and
    | with_reducible apply x_or
    | with_reducible apply x_andV
    | with_reducible apply x_orV
    | with_reducible apply x_notV
    | with_reducible apply x_not
    | with_reducible apply x_if
    | with_reducible apply x_ch
    | with_reducible apply x_isN
    | with_reducible apply x_notN
    | with_reducible apply x_lst
    | with_reducible apply x_tup
    | with_reducible apply x_itL
    | with_reducible apply x_itT
    | with_reducible apply x_enum
    | with_reducible apply x_rng1
    | with_reducible apply x_rng2
    | ((with_reducible apply y_lc0); exact rfl; (with_reducible exact rfl))
    | with_reducible apply y_lcA
    | with_reducible apply y_lc
    | ((with_reducible apply lcA_in); (intro a; exact rfl))
    | ((with_reducible apply lcS_in); (intro a; exact rfl))
    | with_reducible apply x_sl
    | with_reducible apply x_part
    | with_reducible apply x_truB
    | with_reducible apply x_ofB
    | with_reducible apply x_lm
    | with_reducible apply x_lr1
    | with_reducible apply x_lr2
    | with_reducible apply w_seq
    | with_reducible apply qs_frz
    | with_reducible apply qs_nx
    | with_reducible apply qs_rt
    | with_reducible apply qs_bk
    | with_reducible apply qs_ct
    | with_reducible apply ql_nx
    | with_reducible apply ql_ct
    | with_reducible apply ql_bk
    | with_reducible apply ql_rt
    | with_reducible apply qp_rt
    | with_reducible apply qp_nx
    | with_reducible apply w_nx
    | with_reducible apply w_bk
    | with_reducible apply w_ct
    | with_reducible apply w_if
    | with_reducible apply w_asgLc
    | with_reducible apply w_asg
    | with_reducible apply w_app
    | with_reducible apply w_set
    | with_reducible apply w_par
    | with_reducible apply w_par3
    | with_reducible apply w_tup
    | with_reducible apply w_drop
    | with_reducible apply w_ret
    | with_reducible apply w_for
    | ((with_reducible apply qi_rt); exact rfl)
    | ((with_reducible apply qi_nx); exact rfl)
    | with_reducible exact eNil_ok
    | with_reducible exact y_noPart
    | with_reducible apply y_part
    | with_reducible apply y_sl
    | with_reducible apply y_u
    | with_reducible apply y_ofB
    | with_reducible apply y_if
    | with_reducible apply eNot_ok
    | with_reducible apply eTru_ok
    | with_reducible apply y_rng1
    | with_reducible apply liftVT_ok
    | with_reducible apply liftV_ok
    | with_reducible exact flat_i _
    | with_reducible exact flat_n
    | with_reducible exact flat_b _
    | with_reducible exact flat_s _
    | with_reducible apply x_eLst
    | with_reducible apply x_eTup
    | with_reducible apply eOp_ok
    | with_reducible apply eB_ok
    | with_reducible apply eF_ok
    | with_reducible apply eCons_ok
    | with_reducible apply eCall_ok
    | with_reducible apply x_eIo
    | ((with_reducible apply own_ok); exact rfl)
    | with_reducible exact gAdd_i _ _
    | with_reducible exact gSub_i _ _
    | with_reducible exact gNeg_i _
    | with_reducible exact gCmp_i _ _ _
    | with_reducible exact gInt1_i _
    | with_reducible exact gIsi_ll _
    | with_reducible exact gIsi_ii _
    | with_reducible exact gIsi_ib _
    | with_reducible exact len_map _ _
    | with_reducible exact gMax2_i _ _
    | with_reducible exact gSum_int _
    | with_reducible exact gEq_int _ _
    | with_reducible exact gNe_int _ _
    | with_reducible exact gEq_ints _ _
    | ((with_reducible apply gCmp_oL); assumption)
    | ((with_reducible apply gCmp_oR); assumption)
    | ((with_reducible apply gCmp_oL'); assumption)
    | ((with_reducible apply gCmp_oR'); assumption)
    | ((with_reducible apply gEq_mt) <;> (intro a; first | exact pl_i _ | exact dep_i _ | exact optT_pl _ | exact dep_o _))
    | ((with_reducible apply gNe_mt) <;> (intro a; first | exact pl_i _ | exact dep_i _ | exact optT_pl _ | exact dep_o _))
    | ((with_reducible apply gDix0); assumption)
    | with_reducible exact gDix_rng _ rfl (List.mem_range.mp hc)
    | with_reducible exact optT_flat _
    | with_reducible exact gNe_ints _ _
    | with_reducible exact gInA_int _ _
    | with_reducible exact gNin_int _ _
    | with_reducible exact nil_map
    | with_reducible exact lit_map _ _
    | with_reducible exact enum_int _
    | with_reducible exact enum_rng _ _
    | (simp only [likeAt, Sl.like, frz, mvS, sl, List.getElem?_cons_zero, List.getElem?_cons_succ, List.set_cons_zero, List.set_cons_succ]; first | done | with_reducible exact rfl)
    | (simp only [gTE, gLE, List.length_set, List.length_cons, List.length_nil, Nat.reduceAdd, Nat.reduceLT, ite_true, reduceIte, List.set_cons_zero, List.set_cons_succ]; first | done | with_reducible exact rfl)
    | ((with_reducible apply natlit); exact rfl)
    | (simp only [ini, iniI, List.map_cons, List.map_nil, List.length_cons, List.length_nil, Nat.reduceAdd, Nat.reduceSub, List.replicate, List.cons_append, List.nil_append]; first | done | with_reducible exact rfl)
    | ((with_reducible apply small_of); simp only [List.length_cons, List.length_nil]; decide)
    | ((simp only [List.length_cons, List.length_nil, List.length_set, Nat.reduceAdd, Nat.reduceLT, Nat.reduceLeDiff]); done)
    | ((simp only [List.length_cons, List.length_nil]); decide)
    | with_reducible exact rfl
    | decide))
theorem e_whole (n : Int) : m_is_whole [.int n] = .ok (.bl true) := rfl
theorem e_count (n : Int) : m_is_count [.int n] = .ok (.bl (decide (0 ≤ n))) := by
  refine runP_is (g := g_is_count) rfl ?_; apply Exists.intro; apply And.intro; (simp only [ini, iniI, List.map_cons, List.map_nil, List.length_cons, List.length_nil, Nat.reduceAdd, Nat.reduceSub, List.replicate, List.cons_append, List.nil_append]; with_reducible exact rfl); unfold g_is_count
  exists e_whole n
  simp
theorem e_below (n b : Int) : m_is_below [.int n, .int b] = .ok (.bl (decide (0 ≤ n) && decide (n < b))) := by
  refine runP_is (g := g_is_below) rfl ?_; apply Exists.intro; apply And.intro; (simp only [ini, iniI, List.map_cons, List.map_nil, List.length_cons, List.length_nil, Nat.reduceAdd, Nat.reduceSub, List.replicate, List.cons_append, List.nil_append]; with_reducible exact rfl); unfold g_is_below
  exists e_count n
theorem e_thing (n : Int) : m_is_thing [.int n] = .ok (.bl (decide (0 ≤ n) && decide (n < 26))) := by
  refine runP_is (g := g_is_thing) rfl ?_; apply Exists.intro; apply And.intro; (simp only [ini, iniI, List.map_cons, List.map_nil, List.length_cons, List.length_nil, Nat.reduceAdd, Nat.reduceSub, List.replicate, List.cons_append, List.nil_append]; with_reducible exact rfl); unfold g_is_thing
  exists e_below n 26
theorem filt_nil {α : Type} {p : α → Bool} {l : List α} (h : ∀ a ∈ l, p a = false) : l.filter p = [] := List.filter_eq_nil_iff.mpr fun a ha => by rw [h a ha]; exact Bool.false_ne_true
theorem blE {α : Type} {p : α → Bool} {l : List α} (h : ∀ a ∈ l, p a = false) : T.bl true = T.bl (l.filter p).isEmpty := by rw [filt_nil h]; rfl
theorem e_is_row {R : List Int} (h : Rw R) : m_is_row [rowT R] = .ok (.bl true) := by
  have h1 : (1 : Int) ≤ (R.length : Int) := by have := h.lo; omega
  have h2 : (R.length : Int) ≤ 60 := by have := h.hi; omega
  have hl : R.length ≤ 1000000 := by have := h.hi; omega
  have hch : (decide ((1 : Int) ≤ (R.length : Nat)) && decide (((R.length : Nat) : Int) ≤ 60)) = true := by rw [decide_eq_true h1, decide_eq_true h2]; rfl
  refine runP_is (g := g_is_row) rfl ?_; apply Exists.intro; apply And.intro; (simp only [ini, iniI, List.map_cons, List.map_nil, List.length_cons, List.length_nil, Nat.reduceAdd, Nat.reduceSub, List.replicate, List.cons_append, List.nil_append]; with_reducible exact rfl); unfold g_is_row
  exists e_thing _, hl, hch
  · refine blE fun a ha => ?_
    rw [decide_eq_true (h.el a ha).1, decide_eq_true (h.el a ha).2]; rfl
theorem e_check_row {R : List Int} (h : Rw R) : m_check_row [rowT R] = .ok .non := by
  refine runP_is (g := g_check_row) rfl ?_; apply Exists.intro; apply And.intro; (simp only [ini, iniI, List.map_cons, List.map_nil, List.length_cons, List.length_nil, Nat.reduceAdd, Nat.reduceSub, List.replicate, List.cons_append, List.nil_append]; with_reducible exact rfl); unfold g_check_row
  exists e_is_row h
theorem e_places (n : Int) : m_is_places [.int n] = .ok (.bl (decide (1 ≤ n) && decide (n ≤ 26))) := by
  refine runP_is (g := g_is_places) rfl ?_; apply Exists.intro; apply And.intro; (simp only [ini, iniI, List.map_cons, List.map_nil, List.length_cons, List.length_nil, Nat.reduceAdd, Nat.reduceSub, List.replicate, List.cons_append, List.nil_append]; with_reducible exact rfl); unfold g_is_places
  exists e_whole n
  simp
theorem e_check_places {n : Int} (h1 : 1 ≤ n) (h2 : n ≤ 26) : m_check_places [.int n] = .ok .non := by
  refine runP_is (g := g_check_places) rfl ?_; apply Exists.intro; apply And.intro; (simp only [ini, iniI, List.map_cons, List.map_nil, List.length_cons, List.length_nil, Nat.reduceAdd, Nat.reduceSub, List.replicate, List.cons_append, List.nil_append]; with_reducible exact rfl); unfold g_check_places
  exists e_places n
  simp [h1, h2] at hc
abbrev dsT (R : List Int) : T := optsT R.length (distR R)
theorem e_distances {R : List Int} (h : R.length ≤ 60) : m_distances_of [rowT R] = .ok (dsT R) := by
  refine runP_is (g := g_distances_of) rfl ?_; apply Exists.intro; apply And.intro; (simp only [ini, iniI, List.map_cons, List.map_nil, List.length_cons, List.length_nil, Nat.reduceAdd, Nat.reduceSub, List.replicate, List.cons_append, List.nil_append]; with_reducible exact rfl); unfold g_distances_of
  exists rfl
  · refine ⟨fun i ρ => ∃ s3 s4, ρ = [.gd .old (rowT R), .ow (optsT i (distR R)), .fz (rowT (ordR R i)), s3, s4], ⟨.un, .un, rfl⟩, ?_, ?_⟩
    · rintro i t ρ ht ⟨s3, s4, rfl⟩
      obtain ⟨hi, rfl⟩ := List.getElem?_eq_some_iff.mp ht
      rw [List.length_map] at hi
      have hx : (R.map T.int)[i] = T.int (R.getD i 0) := by rw [List.getElem_map, List.getD_eq_getElem?_getD, List.getElem?_eq_getElem hi]; rfl
      rw [hx]
      have ho := cnt_le R i
      refine ⟨_, rfl, ?_⟩
      have hd : (if decide (R.getD i 0 ∈ ordR R i) = true then T.int (List.idxOf (R.getD i 0) (ordR R i) : Nat) else T.non) = optT (distR R i) := by
        unfold distR
        by_cases hm : R.getD i 0 ∈ ordR R i
        · rw [if_pos (decide_eq_true hm), if_pos hm]; rfl
        · rw [if_neg (by rw [decide_eq_false hm]; exact Bool.false_ne_true), if_neg hm]; rfl
      have hlr : (ordR R i).length ≤ 1000000 := by unfold cntR at ho; omega
      have hcl : (List.map T.int [R.getD i 0]).length + 0 ≤ 1 := by simp
      exists hd, hlr
      · exact gIndex_int (of_decide_eq_true hc)
      · rw [List.length_map, List.length_range]; omega
      · exact gCat_map T.int (a := [R.getD i 0]) (by have := List.length_filter_le (fun y => !decide (y = R.getD i 0)) (ordR R i); rw [List.length_singleton]; omega)
      · have e1 : (List.range i).map (fun i => optT (distR R i)) ++ [optT (distR R i)] = (List.range (i + 1)).map fun i => optT (distR R i) := by rw [List.range_succ, List.map_append]; rfl
        rw [e1]
        apply Exists.intro; apply Exists.intro
        rfl
    · rintro ρ ⟨s3, s4, rfl⟩
      rw [List.length_map]
      exists rfl
/-- the number of the first size with which a distance is a hit -/
def markS (S : List Int) (d : Option Nat) : Option Nat := match d with
  | none => none
  | some k => (List.range S.length).find? fun i => decide ((k : Int) < S.getD i 0)
theorem e_mark_of {S : List Int} (hS : S.length ≤ 1000) (d : Option Nat) : m_mark_of [rowT S, optT d] = .ok (optT (markS S d)) := by
  have hl : (List.range S.length).length ≤ 1000000 := by rw [List.length_range]; omega
  refine runP_is (g := g_mark_of) rfl ?_; apply Exists.intro; apply And.intro; (simp only [ini, iniI, List.map_cons, List.map_nil, List.length_cons, List.length_nil, Nat.reduceAdd, Nat.reduceSub, List.replicate, List.cons_append, List.nil_append]; with_reducible exact rfl); unfold g_mark_of
  exists hl
  · cases d with
    | none => rfl
    | some j => cases hc
  · cases d with
    | none => cases hc
    | some k =>
      have eh : markS S (some k) = (List.filter (fun i => decide ((k : Int) < S.getD i 0)) (List.range S.length)).head? := List.head?_filter.symm
      rw [eh]
      show optT (List.filter (fun i => decide ((k : Int) < S.getD i 0)) (List.range S.length)).head? = if (!(List.filter (fun i => decide ((k : Int) < S.getD i 0)) (List.range S.length)).isEmpty) = true then (((List.filter (fun i => decide ((k : Int) < S.getD i 0)) (List.range S.length)).head?).map fun i => T.int (i : Nat)).getD .non else .non
      generalize List.filter (fun i => decide ((k : Int) < S.getD i 0)) (List.range S.length) = l
      cases l <;> rfl
/-- sizes, ascending -/
structure Sz (S : List Int) : Prop where
  lo : 1 ≤ S.length
  hi : S.length ≤ 26
  el : ∀ x ∈ S, 1 ≤ x ∧ x ≤ 26
  up : S.Pairwise (· < ·)
theorem up_get {S : List Int} (h : S.Pairwise (· < ·)) {i j : Nat} (hij : i < j) (hj : j < S.length) : S.getD i 0 < S.getD j 0 := by
  rw [List.pairwise_iff_getElem] at h
  have := h i j (by omega) hj hij
  rw [List.getD_eq_getElem?_getD, List.getD_eq_getElem?_getD, List.getElem?_eq_getElem hj, List.getElem?_eq_getElem (by omega)]
  exact this
theorem e_are_sizes {S : List Int} (h : Sz S) : m_are_sizes [rowT S] = .ok (.bl true) := by
  have hl : S.length ≤ 1000000 := by have := h.hi; omega
  have h1 := h.hi
  have h2 := h.lo
  have hlr : (List.range (((S.length : Nat) : Int) - 1).toNat).length ≤ 1000000 := by rw [List.length_range]; omega
  have hne : S.isEmpty = false := by
    cases S with
    | nil => cases h2
    | cons => rfl
  have hb : (0 : Int) ≤ (S.length : Nat) ∧ ((S.length : Nat) : Int) ≤ 1000000 := by omega
  have hf : S.filter (fun hc => !(decide (1 ≤ hc) && decide (hc ≤ 26))) = [] := filt_nil fun a ha => by
    rw [decide_eq_true (h.el a ha).1, decide_eq_true (h.el a ha).2]; rfl
  have hi : ∀ j : Nat, j ∈ List.range (((S.length : Nat) : Int) - 1).toNat → gDix (rowT S) (.int (1 + (j : Int) - 1)) = some (.int (S.getD j 0)) := fun j hj => by
    have := List.mem_range.mp hj
    have e : 1 + (j : Int) - 1 = (j : Nat) := by omega
    rw [e]; exact gIx_int (by omega)
  have hi' : ∀ j : Nat, j ∈ List.range (((S.length : Nat) : Int) - 1).toNat → gDix (rowT S) (.int (1 + (j : Int))) = some (.int (S.getD (j + 1) 0)) := fun j hj => by
    have := List.mem_range.mp hj
    have e : 1 + (j : Int) = ((j + 1 : Nat) : Int) := by omega
    rw [e]; exact gIx_int (by omega)
  refine runP_is (g := g_are_sizes) rfl ?_; apply Exists.intro; apply And.intro; (simp only [ini, iniI, List.map_cons, List.map_nil, List.length_cons, List.length_nil, Nat.reduceAdd, Nat.reduceSub, List.replicate, List.cons_append, List.nil_append]; with_reducible exact rfl); unfold g_are_sizes
  exists e_places _, hl, hlr, hb, hi _ (by assumption), hi' _ (by assumption)
  · rw [hne, hf] at hc; cases hc
  · refine blE fun a ha => ?_
    have := List.mem_range.mp ha
    have := up_get h.up (i := a) (j := a + 1) (by omega) (by omega)
    exact decide_eq_false (by omega)
theorem e_check_sizes {S : List Int} (h : Sz S) : m_check_sizes [rowT S] = .ok .non := by
  refine runP_is (g := g_check_sizes) rfl ?_; apply Exists.intro; apply And.intro; (simp only [ini, iniI, List.map_cons, List.map_nil, List.length_cons, List.length_nil, Nat.reduceAdd, Nat.reduceSub, List.replicate, List.cons_append, List.nil_append]; with_reducible exact rfl); unfold g_check_sizes
  exists e_are_sizes h
/-- a log: the mark of each ask -/
structure Lg (S : List Int) (n : Nat) (L : Nat → Option Nat) : Prop where
  lo : 1 ≤ n
  hi : n ≤ 60
  lt : ∀ i k, i < n → L i = some k → k < S.length
theorem e_below_o {d : Option Nat} {b : Int} (h : (!(optT d).isN) = true) : m_is_below [optT d, .int b] = .ok (.bl (decide (oget d < b))) := by
  cases d with
  | none => cases h
  | some k =>
    show m_is_below [.int (k : Nat), .int b] = _
    rw [e_below, decide_eq_true (by omega : (0 : Int) ≤ (k : Nat))]; rfl
theorem e_is_log {S : List Int} {n : Nat} {L : Nat → Option Nat} (h : Lg S n L) : m_is_log [rowT S, optsT n L] = .ok (.bl true) := by
  have h1 := h.hi
  have h2 := h.lo
  have hlr : (List.range n).length ≤ 1000000 := by rw [List.length_range]; omega
  have hch : (decide ((1 : Int) ≤ ((List.range n).length : Nat)) && decide ((((List.range n).length : Nat) : Int) ≤ 60)) = true := by rw [List.length_range, decide_eq_true (by omega), decide_eq_true (by omega)]; rfl
  refine runP_is (g := g_is_log) rfl ?_; apply Exists.intro; apply And.intro; (simp only [ini, iniI, List.map_cons, List.map_nil, List.length_cons, List.length_nil, Nat.reduceAdd, Nat.reduceSub, List.replicate, List.cons_append, List.nil_append]; with_reducible exact rfl); unfold g_is_log
  exists hlr, e_below_o (by assumption), hch
  · refine blE fun a ha => ?_
    have ha := List.mem_range.mp ha
    cases e : L a with
    | none => rfl
    | some k =>
      have := h.lt a k ha e
      show (true && !decide ((k : Int) < (S.length : Nat))) = false
      rw [decide_eq_true (by omega)]; rfl
theorem e_check_log {S : List Int} {n : Nat} {L : Nat → Option Nat} (h : Lg S n L) : m_check_log [rowT S, optsT n L] = .ok .non := by
  refine runP_is (g := g_check_log) rfl ?_; apply Exists.intro; apply And.intro; (simp only [ini, iniI, List.map_cons, List.map_nil, List.length_cons, List.length_nil, Nat.reduceAdd, Nat.reduceSub, List.replicate, List.cons_append, List.nil_append]; with_reducible exact rfl); unfold g_check_log
  exists e_is_log h
theorem e_check_most {n : Int} (h1 : 1 ≤ n) (h2 : n ≤ 26) : m_check_most [.int n] = .ok .non := by
  refine runP_is (g := g_check_most) rfl ?_; apply Exists.intro; apply And.intro; (simp only [ini, iniI, List.map_cons, List.map_nil, List.length_cons, List.length_nil, Nat.reduceAdd, Nat.reduceSub, List.replicate, List.cons_append, List.nil_append]; with_reducible exact rfl); unfold g_check_most
  exists e_places n
  simp [h1, h2] at hc
/-- the least distance that has a mark -/
def lfS (S : List Int) (k : Nat) : Int := if k = 0 then 0 else S.getD (k - 1) 0
theorem e_least_far {S : List Int} {k : Nat} (h : k < S.length) : m_least_far [rowT S, .int (k : Nat)] = .ok (.int (lfS S k)) := by
  have hi : ¬ k = 0 → gDix (rowT S) (.int ((k : Int) - 1)) = some (.int (S.getD (k - 1) 0)) := fun hk => by
    have e : (k : Int) - 1 = ((k - 1 : Nat) : Int) := by omega
    rw [e]; exact gIx_int (by omega)
  refine runP_is (g := g_least_far) rfl ?_; apply Exists.intro; apply And.intro; (simp only [ini, iniI, List.map_cons, List.map_nil, List.length_cons, List.length_nil, Nat.reduceAdd, Nat.reduceSub, List.replicate, List.cons_append, List.nil_append]; with_reducible exact rfl); unfold g_least_far
  exists hi (fun z => by subst z; exact absurd hc (by decide))
  unfold lfS
  by_cases hk : k = 0
  · subst hk; rfl
  · rw [if_neg hk, if_neg (by rw [decide_eq_false (by omega)]; exact Bool.false_ne_true)]
theorem e_log_of {R S : List Int} (h : Rw R) (hS : Sz S) : m_log_of [rowT R, rowT S] = .ok (optsT R.length fun i => markS S (distR R i)) := by
  have h1 := h.hi
  have hs1 := hS.hi
  have hlr : (List.range R.length).length ≤ 1000000 := by rw [List.length_range]; omega
  refine runP_is (g := g_log_of) rfl ?_; apply Exists.intro; apply And.intro; (simp only [ini, iniI, List.map_cons, List.map_nil, List.length_cons, List.length_nil, Nat.reduceAdd, Nat.reduceSub, List.replicate, List.cons_append, List.nil_append]; with_reducible exact rfl); unfold g_log_of
  exists e_check_row h, e_check_sizes hS, e_distances h1, e_mark_of (by omega) _, hlr
open Classical in
theorem e_has_log {R S : List Int} {L : Nat → Option Nat} (h : Rw R) (hS : Sz S) (hL : Lg S R.length L) (e : ∀ i, i < R.length → markS S (distR R i) = L i) : m_has_log [rowT R, rowT S, optsT R.length L] = .ok (.bl true) := by
  have h1 := h.hi
  have hs1 := hS.hi
  have hlr : (List.range R.length).length ≤ 1000000 := by rw [List.length_range]; omega
  have he : gEq (optsT R.length fun i => markS S (distR R i)) (optsT R.length L) = some true := by
    rw [gEq_pl (pl_opts _ _) (pl_opts _ _) (Nat.le_trans (dep_opts _ _) (by decide)) (Nat.le_trans (dep_opts _ _) (by decide)), decide_eq_true (opts_inj.mpr e)]
  refine runP_is (g := g_has_log) rfl ?_; apply Exists.intro; apply And.intro; (simp only [ini, iniI, List.map_cons, List.map_nil, List.length_cons, List.length_nil, Nat.reduceAdd, Nat.reduceSub, List.replicate, List.cons_append, List.nil_append]; with_reducible exact rfl); unfold g_has_log
  exists e_check_row h, e_check_sizes hS, e_check_log hL, e_distances h1, e_mark_of (by omega) _, hlr, he
/-- the asks that are hits with the size of a number -/
def hitL (L : Nat → Option Nat) (k : Nat) (i : Nat) : Bool := match L i with
  | none => false
  | some m => decide (m ≤ k)
abbrev natsT (l : List Nat) : T := .lst (l.map fun (i : Nat) => T.int (i : Int))
theorem e_hits_by {n k : Nat} {L : Nat → Option Nat} (hn : n ≤ 60) : m_hits_by [optsT n L, .int (k : Nat)] = .ok (natsT ((List.range n).filter (hitL L k))) := by
  have hlr : (List.range n).length ≤ 1000000 := by rw [List.length_range]; omega
  refine runP_is (g := g_hits_by) rfl ?_; apply Exists.intro; apply And.intro; (simp only [ini, iniI, List.map_cons, List.map_nil, List.length_cons, List.length_nil, Nat.reduceAdd, Nat.reduceSub, List.replicate, List.cons_append, List.nil_append]; with_reducible exact rfl); unfold g_hits_by
  exists hlr
  congr 3
  funext i
  unfold hitL
  cases L i with
  | none => rfl
  | some m =>
    show _ = decide ((m : Int) ≤ (k : Int))
    exact decide_eq_decide.mpr (by omega)
theorem e_log_hits {S : List Int} {n k : Nat} {L : Nat → Option Nat} (hS : Sz S) (hL : Lg S n L) (hk : k < S.length) : m_log_hits [rowT S, optsT n L, .int (k : Nat)] = .ok (natsT ((List.range n).filter (hitL L k))) := by
  have hn := hL.hi
  refine runP_is (g := g_log_hits) rfl ?_; apply Exists.intro; apply And.intro; (simp only [ini, iniI, List.map_cons, List.map_nil, List.length_cons, List.length_nil, Nat.reduceAdd, Nat.reduceSub, List.replicate, List.cons_append, List.nil_append]; with_reducible exact rfl); unfold g_log_hits
  exists e_check_sizes hS, e_check_log hL, e_below _ _, e_hits_by hn
  rw [decide_eq_true (by omega), decide_eq_true (by omega)] at hc; cases hc
end K27

set_option Elab.async false
set_option linter.all false
set_option maxRecDepth 100000
set_option maxHeartbeats 4000000
namespace K27
open PySem TL L2
set_option hygiene false in
local macro_rules
  | `(tactic| exists $ts,*) => `(tactic| repeat' (first
    $[| with_reducible exact $ts]*
    | ((with_reducible intro hc); first | (cases hc; done) | skip)
    | with_reducible exact c_ok
    | ((with_reducible apply v_ok); exact rfl)
    | with_reducible exact nil_ok
    | with_reducible exact x_noPart
    | with_reducible apply liftS_ok
    | with_reducible apply cons_ok
    | with_reducible apply op_ok
    | with_reducible apply b_ok
    | with_reducible apply f_ok
    | with_reducible apply u_ok
    | with_reducible apply call_ok
    | with_reducible apply x_and
    | with_reducible apply x_or
    | with_reducible apply x_andV
    | with_reducible apply x_orV
    | with_reducible apply x_notV
    | with_reducible apply x_not
    | with_reducible apply x_if
    | with_reducible apply x_ch
    | with_reducible apply x_isN
    | with_reducible apply x_notN
    | with_reducible apply x_lst
    | with_reducible apply x_tup
    | with_reducible apply x_itL
    | with_reducible apply x_itT
    | with_reducible apply x_enum
    | with_reducible apply x_rng1
    | with_reducible apply x_rng2
    | ((with_reducible apply y_lc0); exact rfl; (with_reducible exact rfl))
    | with_reducible apply y_lcA
    | with_reducible apply y_lc
    | ((with_reducible apply lcA_in); (intro a; exact rfl))
    | ((with_reducible apply lcS_in); (intro a; exact rfl))
    | with_reducible apply x_sl
    | with_reducible apply x_part
    | with_reducible apply x_truB
    | with_reducible apply x_ofB
    | with_reducible apply x_lm
    | with_reducible apply x_lr1
    | with_reducible apply x_lr2
    | with_reducible apply w_seq
    | with_reducible apply qs_frz
    | with_reducible apply qs_nx
    | with_reducible apply qs_rt
    | with_reducible apply qs_bk
    | with_reducible apply qs_ct
    | with_reducible apply ql_nx
    | with_reducible apply ql_ct
    | with_reducible apply ql_bk
    | with_reducible apply ql_rt
    | with_reducible apply qp_rt
    | with_reducible apply qp_nx
    | with_reducible apply w_nx
    | with_reducible apply w_bk
    | with_reducible apply w_ct
    | with_reducible apply w_if
    | with_reducible apply w_asgLc
    | with_reducible apply w_asg
    | with_reducible apply w_app
    | with_reducible apply w_set
    | with_reducible apply w_par
    | with_reducible apply w_par3
    | with_reducible apply w_tup
    | with_reducible apply w_drop
    | with_reducible apply w_ret
    | with_reducible apply w_for
    | ((with_reducible apply qi_rt); exact rfl)
    | ((with_reducible apply qi_nx); exact rfl)
    | with_reducible exact eNil_ok
    | with_reducible exact y_noPart
    | with_reducible apply y_part
    | with_reducible apply y_sl
    | with_reducible apply y_u
    | with_reducible apply y_ofB
    | with_reducible apply y_if
    | with_reducible apply eNot_ok
    | with_reducible apply eTru_ok
    | with_reducible apply y_rng1
    | with_reducible apply liftVT_ok
    | with_reducible apply liftV_ok
    | with_reducible exact flat_i _
    | with_reducible exact flat_n
    | with_reducible exact flat_b _
    | with_reducible exact flat_s _
    | with_reducible apply x_eLst
    | with_reducible apply x_eTup
    | with_reducible apply eOp_ok
    | with_reducible apply eB_ok
    | with_reducible apply eF_ok
    | with_reducible apply eCons_ok
    | with_reducible apply eCall_ok
    | with_reducible apply x_eIo
    | ((with_reducible apply own_ok); exact rfl)
    | with_reducible exact gAdd_i _ _
    | with_reducible exact gSub_i _ _
    | with_reducible exact gNeg_i _
    | with_reducible exact gCmp_i _ _ _
    | with_reducible exact gInt1_i _
    | with_reducible exact gIsi_ll _
    | with_reducible exact gIsi_ii _
    | with_reducible exact gIsi_ib _
    | with_reducible exact len_map _ _
    | with_reducible exact gMax2_i _ _
    | with_reducible exact gSum_int _
    | with_reducible exact gEq_int _ _
    | with_reducible exact gNe_int _ _
    | with_reducible exact gEq_ints _ _
    | ((with_reducible apply gCmp_oL); assumption)
    | ((with_reducible apply gCmp_oR); assumption)
    | ((with_reducible apply gCmp_oL'); assumption)
    | ((with_reducible apply gCmp_oR'); assumption)
    | ((with_reducible apply gEq_mt) <;> (intro a; first | exact pl_i _ | exact dep_i _ | exact optT_pl _ | exact dep_o _))
    | ((with_reducible apply gNe_mt) <;> (intro a; first | exact pl_i _ | exact dep_i _ | exact optT_pl _ | exact dep_o _))
    | ((with_reducible apply gDix0); assumption)
    | with_reducible exact gDix_rng _ rfl (List.mem_range.mp hc)
    | with_reducible exact optT_flat _
    | with_reducible exact gNe_ints _ _
    | with_reducible exact gInA_int _ _
    | with_reducible exact gNin_int _ _
    | with_reducible exact nil_map
    | with_reducible exact lit_map _ _
    | with_reducible exact enum_int _
    | with_reducible exact enum_rng _ _
    | (simp only [likeAt, Sl.like, frz, mvS, sl, List.getElem?_cons_zero, List.getElem?_cons_succ, List.set_cons_zero, List.set_cons_succ]; first | done | with_reducible exact rfl)
    | (simp only [gTE, gLE, List.length_set, List.length_cons, List.length_nil, Nat.reduceAdd, Nat.reduceLT, ite_true, reduceIte, List.set_cons_zero, List.set_cons_succ]; first | done | with_reducible exact rfl)
    | ((with_reducible apply natlit); exact rfl)
    | (simp only [ini, iniI, List.map_cons, List.map_nil, List.length_cons, List.length_nil, Nat.reduceAdd, Nat.reduceSub, List.replicate, List.cons_append, List.nil_append]; first | done | with_reducible exact rfl)
    | ((with_reducible apply small_of); simp only [List.length_cons, List.length_nil]; decide)
    | ((simp only [List.length_cons, List.length_nil, List.length_set, Nat.reduceAdd, Nat.reduceLT, Nat.reduceLeDiff]); done)
    | ((simp only [List.length_cons, List.length_nil]); decide)
    | with_reducible exact rfl
    | decide))
section
variable (S : List Int) (L : Nat → Option Nat) (most : Int)
def lastS : Int := S.getD (S.length - 1) 0
def mtT : Nat → Nat
  | 0 => 0
  | i + 1 => match L i with
    | some _ => mtT i
    | none => if (mtT i : Int) < most then mtT i + 1 else mtT i
def tF (i : Nat) : Option Nat := match L i with
  | some k => some (lfS S k).toNat
  | none => if (mtT L most i : Int) < most then none else some (lastS S).toNat
def okT (i : Nat) : Prop := match L i with
  | some k => lfS S k < (mtT L most i : Nat)
  | none => (mtT L most i : Int) < most ∨ lastS S < (mtT L most i : Nat)
end
theorem mtT_eq (S : List Int) (L : Nat → Option Nat) (most : Int) : ∀ i, mtT L most i = mnyF (tF S L most) i
  | 0 => rfl
  | i + 1 => by
    rw [mnyF_succ, ← mtT_eq S L most i]
    show (match L i with | some _ => mtT L most i | none => if (mtT L most i : Int) < most then mtT L most i + 1 else mtT L most i) = _
    unfold tF
    cases e : L i with
    | some k => simp
    | none =>
      dsimp only
      by_cases h : (mtT L most i : Int) < most
      · rw [if_pos h, if_pos h, if_pos rfl]
      · rw [if_neg h, if_neg h]; simp
theorem lfS_nn {S : List Int} (h : Sz S) {k : Nat} (hk : k < S.length) : 0 ≤ lfS S k := by
  unfold lfS
  split
  · omega
  · have := (h.el _ (getD_mem (l := S) (k := k - 1) (by omega))).1
    omega
theorem lastS_nn {S : List Int} (h : Sz S) : 0 ≤ lastS S := by
  have := h.lo
  have := (h.el _ (getD_mem (l := S) (k := S.length - 1) (by omega))).1
  unfold lastS; omega
theorem gDix_last {S : List Int} (h : 1 ≤ S.length) : gDix (rowT S) (.int (-1)) = some (.int (lastS S)) := by
  show atI (S.map T.int) (-1) = _
  have e : (S.map T.int)[S.length - 1]? = some (.int (lastS S)) := by
    rw [List.getElem?_map, List.getElem?_eq_getElem (by omega)]
    unfold lastS
    rw [List.getD_eq_getElem?_getD, List.getElem?_eq_getElem (by omega)]; rfl
  unfold atI
  have e2 : ixN (S.map T.int).length (-1) = some (S.length - 1) := by
    unfold ixN
    rw [List.length_map, if_neg (by decide), if_pos (by omega)]
    congr 1; omega
  rw [e2]; exact e
theorem e_told {S : List Int} {n : Nat} {L : Nat → Option Nat} {most : Int} (hS : Sz S) (hL : Lg S n L) : ∃ t, m_told_distances [rowT S, optsT n L, .int most] = .ok t ∧
    ((t = .tup [optsT n (tF S L most), .non] ∧ ∀ i, i < n → okT S L most i) ∨ ∃ i : Nat, i < n ∧ ¬ okT S L most i ∧ t = .tup [.non, .int (i : Nat)]) := by
  have hn := hL.hi
  have hs := hS.lo
  refine runP_w (g := g_told_distances) rfl ?_; apply Exists.intro; apply And.intro; (simp only [ini, iniI, List.map_cons, List.map_nil, List.length_cons, List.length_nil, Nat.reduceAdd, Nat.reduceSub, List.replicate, List.cons_append, List.nil_append]; with_reducible exact rfl); unfold g_told_distances
  exists hn
  refine ⟨fun i ρ => (∃ s5 s6 s7, ρ = [.gd .old (rowT S), .gd .old (optsT n L), .gd .old (.int most), .ow (optsT i (tF S L most)), .fz (.int (mtT L most i : Nat)), s5, s6, s7]) ∧ ∀ j, j < i → okT S L most j, ⟨⟨.un, .un, .un, rfl⟩, fun j hj => absurd hj (Nat.not_lt_zero j)⟩, ?_, ?_⟩
  · rintro i t ρ ht ⟨⟨s5, s6, s7, rfl⟩, hok⟩
    obtain ⟨hi, rfl⟩ := List.getElem?_eq_some_iff.mp ht
    rw [List.length_map, List.length_range] at hi
    rw [List.getElem_map, List.getElem_range]
    have hsm : ((List.range i).map fun i => optT (tF S L most i)).length < 16777216 := by rw [List.length_map, List.length_range]; omega
    have nxt : ∀ (a : Option Nat), a = tF S L most i → ((List.range i).map fun i => optT (tF S L most i)) ++ [optT a] = (List.range (i + 1)).map fun i => optT (tF S L most i) := fun a ha => by rw [ha, List.range_succ, List.map_append]; rfl
    cases e : L i with
    | some k =>
      have hk := hL.lt i k hi e
      have hmt : mtT L most (i + 1) = mtT L most i := by show (match L i with | some _ => _ | none => _) = _; rw [e]
      have htf : tF S L most i = some (lfS S k).toNat := by unfold tF; rw [e]
      have hl0 := lfS_nn hS hk
      have elf : m_least_far [rowT S, optT (some k)] = .ok (.int (lfS S k)) := e_least_far hk
      by_cases hlt : lfS S k < (mtT L most i : Nat)
      · have hokI : okT S L most i := by unfold okT; rw [e]; exact hlt
        have hdd : decide ((mtT L most i : Int) ≤ lfS S k) = false := decide_eq_false (by omega)
        refine ⟨_, rfl, ?_⟩
        exists elf, hsm
        · rw [hdd] at hc; cases hc
        · refine ⟨?_, fun j hj => ?_⟩
          · have z := nxt (some (lfS S k).toNat) htf.symm
            have ez : optT (some (lfS S k).toNat) = .int (lfS S k) := by show T.int _ = _; congr 1; omega
            rw [ez] at z
            rw [z, hmt]
            apply Exists.intro; apply Exists.intro; apply Exists.intro
            rfl
          · by_cases hji : j = i
            · rw [hji]; exact hokI
            · exact hok j (by omega)
      · have hokI : ¬ okT S L most i := by unfold okT; rw [e]; exact hlt
        have hdd : decide ((mtT L most i : Int) ≤ lfS S k) = true := decide_eq_true (by omega)
        refine ⟨_, rfl, ?_⟩
        exists elf, hsm
        · exact .inr ⟨i, hi, hokI, rfl⟩
        · rw [hdd] at hc; cases hc
    | none =>
      have hmt : mtT L most (i + 1) = if (mtT L most i : Int) < most then mtT L most i + 1 else mtT L most i := by show (match L i with | some _ => _ | none => _) = _; rw [e]
      have htf : tF S L most i = if (mtT L most i : Int) < most then none else some (lastS S).toNat := by unfold tF; rw [e]
      have hl0 := lastS_nn hS
      refine ⟨_, rfl, ?_⟩
      by_cases h1 : (mtT L most i : Int) < most
      · have hokI : okT S L most i := by unfold okT; rw [e]; exact .inl h1
        rw [if_pos h1] at hmt htf
        exists gDix_last hs, hsm
        · refine ⟨?_, fun j hj => ?_⟩
          · have z := nxt none htf.symm
            have em : ((mtT L most i : Nat) : Int) + 1 = ((mtT L most (i + 1) : Nat) : Int) := by rw [hmt]; rfl
            rw [em]
            have z : List.map (fun i => optT (tF S L most i)) (List.range i) ++ [T.non] = _ := z
            rw [z]
            apply Exists.intro; apply Exists.intro; apply Exists.intro
            rfl
          · by_cases hji : j = i
            · rw [hji]; exact hokI
            · exact hok j (by omega)
        · exact absurd h1 (of_decide_eq_false (by assumption))
        · exact absurd h1 (of_decide_eq_false (by assumption))
      · rw [if_neg h1] at hmt htf
        by_cases h2 : lastS S < (mtT L most i : Nat)
        · have hokI : okT S L most i := by unfold okT; rw [e]; exact .inr h2
          exists gDix_last hs, hsm
          · exact absurd (of_decide_eq_true hc) h1
          · refine ⟨?_, fun j hj => ?_⟩
            · have z := nxt (some (lastS S).toNat) htf.symm
              have ez : optT (some (lastS S).toNat) = .int (lastS S) := by show T.int _ = _; congr 1; omega
              rw [ez] at z
              rw [z, hmt]
              apply Exists.intro; apply Exists.intro; apply Exists.intro
              rfl
            · by_cases hji : j = i
              · rw [hji]; exact hokI
              · exact hok j (by omega)
          · exact absurd h2 (of_decide_eq_false hc)
        · have hokI : ¬ okT S L most i := by unfold okT; rw [e]; exact fun z => z.elim h1 h2
          exists gDix_last hs, hsm
          · exact absurd (of_decide_eq_true hc) h1
          · exact absurd (of_decide_eq_true hc) h2
          · exact .inr ⟨i, hi, hokI, rfl⟩
  · rintro ρ ⟨⟨s5, s6, s7, rfl⟩, hok⟩
    rw [List.length_map, List.length_range] at hok ⊢
    exists rfl
    exact .inl ⟨rfl, hok⟩

theorem e_row_of {n : Nat} {F : Nat → Option Nat} (v : ValidF F n) (hn : n ≤ 60) : m_row_of [optsT n F] = .ok (rowT (rowF F n)) := by
  refine runP_is (g := g_row_of) rfl ?_; apply Exists.intro; apply And.intro; (simp only [ini, iniI, List.map_cons, List.map_nil, List.length_cons, List.length_nil, Nat.reduceAdd, Nat.reduceSub, List.replicate, List.cons_append, List.nil_append]; with_reducible exact rfl); unfold g_row_of
  exists hn
  refine ⟨fun i ρ => ∃ s3 s4, ρ = [.gd .old (optsT n F), .ow (rowT (rowF F i)), .fz (rowT (nowF F i)), s3, s4, .un], ⟨.un, .un, rfl⟩, ?_, ?_⟩
  · rintro i t ρ ht ⟨s3, s4, rfl⟩
    obtain ⟨hi, rfl⟩ := List.getElem?_eq_some_iff.mp ht
    rw [List.length_map, List.length_range] at hi
    rw [List.getElem_map, List.getElem_range]
    obtain ⟨h1, h2, h3⟩ := nowF_ok v i (by omega)
    have hm : mnyF F i ≤ i := by
      have : ∀ j, mnyF F j ≤ j := fun j => by
        induction j with
        | zero => exact Nat.le_refl _
        | succ j ih => rw [mnyF_succ]; split <;> omega
      exact this i
    have hlr : (nowF F i).length ≤ 1000000 := by omega
    have hrl : ((rowF F i).map T.int).length < 16777216 := by unfold rowF; rw [List.length_map, List.length_map, List.length_range]; omega
    have hth : (if (optT (F i)).isN = true then T.int ((nowF F i).length : Nat) else T.int ((nowF F i).getD ((F i).getD 0) 0)) = T.int (thF F i) := by
      unfold thF
      cases F i with
      | none => rfl
      | some f => rfl
    have hat : (optT (F i)).isN = false → gDix (rowT (nowF F i)) (optT (F i)) = some (T.int ((nowF F i).getD ((F i).getD 0) 0)) := fun z => by
      cases e : F i with
      | none => rw [e] at z; cases z
      | some f => exact gIx_int (by have := v.lt i f hi e; omega)
    have hc1 : gCat (.lst [.int (thF F i)]) (.lst (((nowF F i).filter fun y => !decide (y = thF F i)).map T.int)) = some (rowT (nowF F (i + 1))) := gCat_map T.int (a := [thF F i]) (b := (nowF F i).filter fun y => !decide (y = thF F i)) (by have := List.length_filter_le (fun y => !decide (y = thF F i)) (nowF F i); rw [List.length_singleton]; omega)
    refine ⟨_, rfl, ?_⟩
    exists hth, hat hc, hlr, hrl, hc1
    have e1 : (rowF F i).map T.int ++ [T.int (thF F i)] = (rowF F (i + 1)).map T.int := by unfold rowF; rw [List.range_succ, List.map_append, List.map_append]; rfl
    rw [e1]
    apply Exists.intro; apply Exists.intro
    rfl
  · rintro ρ ⟨s3, s4, rfl⟩
    rw [List.length_map, List.length_range]
    exists hn
theorem e_things_of {R : List Int} (h : R.length ≤ 60) : m_things_of [rowT R] = .ok (rowT (setL R)) := by
  have := setL_le R
  refine runP_is (g := g_things_of) rfl ?_; apply Exists.intro; apply And.intro; (simp only [ini, iniI, List.map_cons, List.map_nil, List.length_cons, List.length_nil, Nat.reduceAdd, Nat.reduceSub, List.replicate, List.cons_append, List.nil_append]; with_reducible exact rfl); unfold g_things_of
  exists gSet_int (l := R) (by omega), gSorted_set (S := setL R) (by omega)
theorem e_things {R : List Int} (h : Rw R) : m_things [rowT R] = .ok (rowT (setL R)) := by
  refine runP_is (g := g_things) rfl ?_; apply Exists.intro; apply And.intro; (simp only [ini, iniI, List.map_cons, List.map_nil, List.length_cons, List.length_nil, Nat.reduceAdd, Nat.reduceSub, List.replicate, List.cons_append, List.nil_append]; with_reducible exact rfl); unfold g_things
  exists e_check_row h, e_things_of h.hi
/-! ### what a row's own log leads to -/
def logR (R S : List Int) (i : Nat) : Option Nat := markS S (distR R i)
theorem mark_some {S : List Int} {d : Option Nat} {k : Nat} (h : markS S d = some k) : ∃ j, d = some j ∧ k < S.length ∧ (j : Int) < S.getD k 0 ∧ ∀ m, m < k → S.getD m 0 ≤ (j : Int) := by
  cases d with
  | none => cases h
  | some j =>
    unfold markS at h
    dsimp only at h
    obtain ⟨h1, h2, h3⟩ := List.find?_range_eq_some.mp h
    refine ⟨j, rfl, List.mem_range.mp h2, of_decide_eq_true h1, fun m hm => ?_⟩
    have := h3 m hm
    rw [Bool.not_eq_true'] at this
    have := of_decide_eq_false this
    omega
theorem mark_none {S : List Int} {d : Option Nat} : markS S d = none ↔ ∀ j, d = some j → ∀ k, k < S.length → S.getD k 0 ≤ (j : Int) := by
  cases d with
  | none =>
    constructor
    · intro _ j h; cases h
    · intro _; rfl
  | some j =>
    unfold markS
    dsimp only
    rw [List.find?_eq_none]
    constructor
    · intro h i hi k hk
      cases hi
      have h := h k (List.mem_range.mpr hk)
      have h2 : ¬ ((j : Int) < S.getD k 0) := fun z => h (decide_eq_true z)
      omega
    · intro h k hk
      have := h j rfl k (List.mem_range.mp hk)
      exact fun z => by have := of_decide_eq_true z; omega
theorem log_lg {R S : List Int} (h : Rw R) : Lg S R.length (logR R S) := ⟨h.lo, h.hi, fun i k _ e => by obtain ⟨_, _, hk, _⟩ := mark_some e; exact hk⟩

theorem lf_mark {S : List Int} (h : Sz S) {k : Nat} (hk : k < S.length) : markS S (some (lfS S k).toNat) = some k := by
  have h0 := lfS_nn h hk
  unfold markS
  dsimp only
  refine List.find?_range_eq_some.mpr ⟨decide_eq_true ?_, List.mem_range.mpr hk, fun j hj => ?_⟩
  · unfold lfS at h0 ⊢
    by_cases hz : k = 0
    · subst hz
      have := (h.el _ (getD_mem (l := S) (k := 0) hk)).1
      rw [if_pos rfl]
      show ((0 : Int).toNat : Int) < _
      omega
    · rw [if_neg hz] at h0 ⊢
      have := up_get h.up (i := k - 1) (j := k) (by omega) hk
      omega
  · rw [Bool.not_eq_true']
    refine decide_eq_false ?_
    unfold lfS at h0 ⊢
    rw [if_neg (by omega)] at h0 ⊢
    by_cases hjk : j = k - 1
    · rw [hjk]; omega
    · have := up_get h.up (i := j) (j := k - 1) (by omega) (by omega)
      omega
theorem last_mark {S : List Int} (h : Sz S) : markS S (some (lastS S).toNat) = none := by
  have h0 := lastS_nn h
  rw [mark_none]
  intro j e k hk
  cases e
  have : S.getD k 0 ≤ lastS S := by
    unfold lastS
    by_cases hz : k = S.length - 1
    · rw [hz]; exact Int.le_refl _
    · have := up_get h.up (i := k) (j := S.length - 1) (by omega) (by omega)
      omega
  omega
/-- with as many things as the row has, its log can be told -/
theorem tell_ok {R S : List Int} (hS : Sz S) : ∀ i, i ≤ R.length → cntR R i ≤ mtT (logR R S) (cntR R R.length : Nat) i ∧ mtT (logR R S) (cntR R R.length : Nat) i ≤ cntR R R.length ∧ (cntR R i < mtT (logR R S) (cntR R R.length : Nat) i → lastS S < (cntR R i : Nat)) ∧ ∀ j, j < i → okT S (logR R S) (cntR R R.length : Nat) j
  | 0, _ => ⟨Nat.le_refl _, Nat.zero_le _, fun z => absurd z (Nat.lt_irrefl _), fun j hj => absurd hj (Nat.not_lt_zero j)⟩
  | i + 1, hi => by
    obtain ⟨h1, h2, h3, h4⟩ := tell_ok (R := R) hS i (by omega)
    have hcs := cnt_succ R i
    have hcm := cnt_mono R (i := i + 1) (j := R.length) hi
    have hms : mtT (logR R S) (cntR R R.length : Nat) (i + 1) = match logR R S i with
      | some _ => mtT (logR R S) (cntR R R.length : Nat) i
      | none => if (mtT (logR R S) (cntR R R.length : Nat) i : Int) < (cntR R R.length : Nat) then mtT (logR R S) (cntR R R.length : Nat) i + 1 else mtT (logR R S) (cntR R R.length : Nat) i := rfl
    generalize hm : mtT (logR R S) (cntR R R.length : Nat) i = m at *
    have step : okT S (logR R S) (cntR R R.length : Nat) i ∧ cntR R (i + 1) ≤ mtT (logR R S) (cntR R R.length : Nat) (i + 1) ∧ mtT (logR R S) (cntR R R.length : Nat) (i + 1) ≤ cntR R R.length ∧ (cntR R (i + 1) < mtT (logR R S) (cntR R R.length : Nat) (i + 1) → lastS S < (cntR R (i + 1) : Nat)) := by
      cases e : logR R S i with
      | some k =>
        rw [e] at hms
        dsimp only at hms
        obtain ⟨d, ed, hk, hd, hl⟩ := mark_some e
        have hdl := dist_lt ed
        rw [ed] at hcs
        have hcs : cntR R (i + 1) = cntR R i := by rw [hcs]; simp
        refine ⟨?_, by omega, by omega, fun z => by rw [hcs]; exact h3 (by omega)⟩
        unfold okT
        rw [e, hm]
        show lfS S k < (m : Nat)
        unfold lfS
        split
        · omega
        · have := hl (k - 1) (by omega); omega
      | none =>
        rw [e] at hms
        dsimp only at hms
        have far : ∀ d, distR R i = some d → lastS S ≤ (d : Int) := fun d ed => mark_none.mp e d ed (S.length - 1) (by have := hS.lo; omega)
        cases ed : distR R i with
        | none =>
          rw [ed] at hcs
          have hcs : cntR R (i + 1) = cntR R i + 1 := by rw [hcs]; simp
          by_cases hlt : (m : Int) < (cntR R R.length : Nat)
          · rw [if_pos hlt] at hms
            refine ⟨by unfold okT; rw [e, hm]; exact .inl hlt, by omega, by omega, fun z => by have := h3 (by omega); omega⟩
          · rw [if_neg hlt] at hms
            have := h3 (by omega)
            refine ⟨by unfold okT; rw [e, hm]; exact .inr (by omega), by omega, by omega, fun z => by omega⟩
        | some d =>
          have hdl := dist_lt ed
          have hfar := far d ed
          rw [ed] at hcs
          have hcs : cntR R (i + 1) = cntR R i := by rw [hcs]; simp
          by_cases hlt : (m : Int) < (cntR R R.length : Nat)
          · rw [if_pos hlt] at hms
            refine ⟨by unfold okT; rw [e, hm]; exact .inl hlt, by omega, by omega, fun z => by omega⟩
          · rw [if_neg hlt] at hms
            refine ⟨by unfold okT; rw [e, hm]; exact .inr (by omega), by omega, by omega, fun z => by omega⟩
    refine ⟨step.2.1, step.2.2.1, step.2.2.2, fun j hj => ?_⟩
    by_cases hji : j = i
    · rw [hji]; exact step.1
    · exact h4 j (by omega)
/-- the row that is told -/
def otherR (R S : List Int) : List Int := rowF (tF S (logR R S) (cntR R R.length : Nat)) R.length
theorem other_valid {R S : List Int} (hS : Sz S) : ValidF (tF S (logR R S) (cntR R R.length : Nat)) R.length := ⟨fun i f hi e => by
  obtain ⟨_, _, _, h4⟩ := tell_ok (R := R) hS (i + 1) (by omega)
  have hok := h4 i (by omega)
  rw [← mtT_eq]
  unfold okT at hok
  unfold tF at e
  cases el : logR R S i with
  | some k =>
    rw [el] at hok e
    cases e
    obtain ⟨_, _, hk, _⟩ := mark_some el
    have := lfS_nn hS hk
    have hok : lfS S k < _ := hok
    omega
  | none =>
    rw [el] at hok e
    dsimp only at hok e
    split at e
    · cases e
    · rename_i hn
      cases e
      have := lastS_nn hS
      rcases hok with z | z
      · exact absurd z hn
      · omega⟩
theorem other_dist {R S : List Int} (hS : Sz S) {i : Nat} (hi : i < R.length) : distR (otherR R S) i = tF S (logR R S) (cntR R R.length : Nat) i := rowF_dist (other_valid hS) hi
theorem other_len (R S : List Int) : (otherR R S).length = R.length := by unfold otherR rowF; rw [List.length_map, List.length_range]
theorem other_cnt {R S : List Int} (hS : Sz S) : cntR (otherR R S) (otherR R S).length ≤ cntR R R.length := by
  rw [other_len]
  have := rowF_cnt (other_valid (R := R) hS)
  unfold otherR
  rw [this, ← mtT_eq]
  exact (tell_ok hS R.length (Nat.le_refl _)).2.1
theorem other_log {R S : List Int} (hS : Sz S) {i : Nat} (hi : i < R.length) : logR (otherR R S) S i = logR R S i := by
  show markS S (distR (otherR R S) i) = _
  rw [other_dist hS hi]
  unfold tF
  cases el : logR R S i with
  | some k =>
    obtain ⟨_, _, hk, _⟩ := mark_some el
    exact lf_mark hS hk
  | none =>
    dsimp only
    split
    · rfl
    · exact last_mark hS
theorem cnt26 {R : List Int} (h : Rw R) : 1 ≤ cntR R R.length ∧ cntR R R.length ≤ 26 := by
  constructor
  · have := cnt_mono R (i := 1) (j := R.length) h.lo
    have e : cntR R 1 = 1 := by rw [cnt_succ]; rfl
    omega
  · have := nodup_sub (b := (List.range 26).map fun (i : Nat) => (i : Int)) (ord_nodup R R.length) fun x hx => by
      obtain ⟨j, hj, rfl⟩ := mem_ord.mp hx
      have := h.el _ (getD_mem hj)
      exact List.mem_map.mpr ⟨(R.getD j 0).toNat, List.mem_range.mpr (by omega), by omega⟩
    rw [List.length_map, List.length_range] at this
    exact this
theorem other_rw {R S : List Int} (h : Rw R) (hS : Sz S) : Rw (otherR R S) := by
  refine ⟨by rw [other_len]; exact h.lo, by rw [other_len]; exact h.hi, fun x hx => ?_⟩
  have h1 := rowF_el (other_valid (R := R) hS) x hx
  rw [← mtT_eq] at h1
  have h2 := (tell_ok (R := R) hS R.length (Nat.le_refl _)).2.1
  have h3 := (cnt26 h).2
  omega
theorem e_row_or_ask {R S : List Int} (h : Rw R) (hS : Sz S) : m_row_or_ask [rowT S, optsT R.length (logR R S), .int (cntR R R.length : Nat)] = .ok (.tup [.str "row", rowT (otherR R S)]) := by
  obtain ⟨t, et, hd⟩ := e_told (most := (cntR R R.length : Nat)) hS (log_lg (S := S) h)
  have hall := (tell_ok (R := R) hS R.length (Nat.le_refl _)).2.2.2
  have et : m_told_distances [rowT S, optsT R.length (logR R S), .int (cntR R R.length : Nat)] = .ok (.tup [optsT R.length (tF S (logR R S) (cntR R R.length : Nat)), .non]) := by
    rcases hd with ⟨rfl, _⟩ | ⟨i, hi, hn, _⟩
    · exact et
    · exact absurd (hall i hi) hn
  have hc := cnt26 h
  refine runP_is (g := g_row_or_ask) rfl ?_; apply Exists.intro; apply And.intro; (simp only [ini, iniI, List.map_cons, List.map_nil, List.length_cons, List.length_nil, Nat.reduceAdd, Nat.reduceSub, List.replicate, List.cons_append, List.nil_append]; with_reducible exact rfl); unfold g_row_or_ask
  exists e_check_sizes hS, e_check_log (log_lg h), e_check_most (n := (cntR R R.length : Nat)) (by omega) (by omega), et, e_row_of (other_valid hS) h.hi
  exact rfl
theorem e_fewest {R S : List Int} (h : Rw R) (hS : Sz S) : ∃ t, m_fewest_things [rowT S, optsT R.length (logR R S)] = .ok t ∧ ∃ k : Nat, t = .int (k : Nat) ∧ k ≤ cntR R R.length := by
  have hall := (tell_ok (R := R) hS R.length (Nat.le_refl _)).2.2.2
  have hc := cnt26 h
  have hb : (0 : Int) ≤ 1 ∧ (1 : Int) ≤ 1000000 := by decide
  have hb2 : (0 : Int) ≤ 26 + 1 ∧ (26 : Int) + 1 ≤ 1000000 := by decide
  refine runP_w (g := g_fewest_things) rfl ?_; apply Exists.intro; apply And.intro; (simp only [ini, iniI, List.map_cons, List.map_nil, List.length_cons, List.length_nil, Nat.reduceAdd, Nat.reduceSub, List.replicate, List.cons_append, List.nil_append]; with_reducible exact rfl); unfold g_fewest_things
  exists e_check_sizes hS, e_check_log (log_lg h), hb, hb2
  refine ⟨fun i ρ => (∃ s, ρ = [.gd .old (rowT S), .gd .old (optsT R.length (logR R S)), s]) ∧ i < cntR R R.length, ⟨⟨_, rfl⟩, by omega⟩, ?_, ?_⟩
  · rintro i t ρ ht ⟨⟨s, rfl⟩, hi⟩
    obtain ⟨hi2, rfl⟩ := List.getElem?_eq_some_iff.mp ht
    rw [List.getElem_map, List.getElem_range]
    have e1 : (1 : Int) + (i : Nat) = ((i + 1 : Nat) : Int) := by omega
    rw [e1]
    obtain ⟨t, et, hd⟩ := e_told (most := ((i + 1 : Nat) : Int)) hS (log_lg (S := S) h)
    refine ⟨_, rfl, ?_⟩
    rcases hd with ⟨rfl, _⟩ | ⟨j, hj, hn, rfl⟩
    · have hix : gDix (.tup [optsT R.length (tF S (logR R S) ((i + 1 : Nat) : Int)), .non]) (.int 1) = some .non := rfl
      exists et, hix
      exact ⟨i + 1, rfl, by omega⟩
    · have hix : gDix (.tup [.non, .int (j : Nat)]) (.int 1) = some (.int (j : Nat)) := rfl
      exists et, hix
      refine ⟨⟨_, rfl⟩, ?_⟩
      by_cases z : i + 1 = cntR R R.length
      · rw [z] at hn; exact absurd (hall j hj) hn
      · omega
  · rintro ρ ⟨⟨s, rfl⟩, hi⟩
    rw [List.length_map, List.length_range] at hi
    have : (26 + 1 - 1 : Int).toNat = 26 := rfl
    omega
end K27

set_option Elab.async false
set_option linter.all false
set_option maxRecDepth 100000
set_option maxHeartbeats 4000000
namespace K27
open PySem TL L2
set_option hygiene false in
local macro_rules
  | `(tactic| exists $ts,*) => `(tactic| repeat' (first
    $[| with_reducible exact $ts]*
    | ((with_reducible intro hc); first | (cases hc; done) | skip)
    | with_reducible exact c_ok
    | ((with_reducible apply v_ok); exact rfl)
    | with_reducible exact nil_ok
    | with_reducible exact x_noPart
    | with_reducible apply liftS_ok
    | with_reducible apply cons_ok
    | with_reducible apply op_ok
    | with_reducible apply b_ok
    | with_reducible apply f_ok
    | with_reducible apply u_ok
    | with_reducible apply call_ok
    | with_reducible apply x_and
    | with_reducible apply x_or
    | with_reducible apply x_andV
    | with_reducible apply x_orV
    | with_reducible apply x_notV
    | with_reducible apply x_not
    | with_reducible apply x_if
    | with_reducible apply x_ch
    | with_reducible apply x_isN
    | with_reducible apply x_notN
    | with_reducible apply x_lst
    | with_reducible apply x_tup
    | with_reducible apply x_itL
    | with_reducible apply x_itT
    | with_reducible apply x_enum
    | with_reducible apply x_rng1
    | with_reducible apply x_rng2
    | ((with_reducible apply y_lc0); exact rfl; (with_reducible exact rfl))
    | with_reducible apply y_lcA
    | with_reducible apply y_lc
    | ((with_reducible apply lcA_in); (intro a; exact rfl))
    | ((with_reducible apply lcS_in); (intro a; exact rfl))
    | with_reducible apply x_sl
    | with_reducible apply x_part
    | with_reducible apply x_truB
    | with_reducible apply x_ofB
    | with_reducible apply x_lm
    | with_reducible apply x_lr1
    | with_reducible apply x_lr2
    | with_reducible apply w_seq
    | with_reducible apply qs_frz
    | with_reducible apply qs_nx
    | with_reducible apply qs_rt
    | with_reducible apply qs_bk
    | with_reducible apply qs_ct
    | with_reducible apply ql_nx
    | with_reducible apply ql_ct
    | with_reducible apply ql_bk
    | with_reducible apply ql_rt
    | with_reducible apply qp_rt
    | with_reducible apply qp_nx
    | with_reducible apply w_nx
    | with_reducible apply w_bk
    | with_reducible apply w_ct
    | with_reducible apply w_if
    | with_reducible apply w_asgLc
    | with_reducible apply w_asg
    | with_reducible apply w_app
    | with_reducible apply w_set
    | with_reducible apply w_par
    | with_reducible apply w_par3
    | with_reducible apply w_tup
    | with_reducible apply w_drop
    | with_reducible apply w_ret
    | with_reducible apply w_for
    | ((with_reducible apply qi_rt); exact rfl)
    | ((with_reducible apply qi_nx); exact rfl)
    | with_reducible exact eNil_ok
    | with_reducible exact y_noPart
    | with_reducible apply y_part
    | with_reducible apply y_sl
    | with_reducible apply y_u
    | with_reducible apply y_ofB
    | with_reducible apply y_if
    | with_reducible apply eNot_ok
    | with_reducible apply eTru_ok
    | with_reducible apply y_rng1
    | with_reducible apply liftVT_ok
    | with_reducible apply liftV_ok
    | with_reducible exact flat_i _
    | with_reducible exact flat_n
    | with_reducible exact flat_b _
    | with_reducible exact flat_s _
    | with_reducible apply x_eLst
    | with_reducible apply x_eTup
    | with_reducible apply eOp_ok
    | with_reducible apply eB_ok
    | with_reducible apply eF_ok
    | with_reducible apply eCons_ok
    | with_reducible apply eCall_ok
    | with_reducible apply x_eIo
    | ((with_reducible apply own_ok); exact rfl)
    | with_reducible exact gAdd_i _ _
    | with_reducible exact gSub_i _ _
    | with_reducible exact gNeg_i _
    | with_reducible exact gCmp_i _ _ _
    | with_reducible exact gInt1_i _
    | with_reducible exact gIsi_ll _
    | with_reducible exact gIsi_ii _
    | with_reducible exact gIsi_ib _
    | with_reducible exact len_map _ _
    | with_reducible exact gMax2_i _ _
    | with_reducible exact gSum_int _
    | with_reducible exact gEq_int _ _
    | with_reducible exact gNe_int _ _
    | with_reducible exact gEq_ints _ _
    | ((with_reducible apply gCmp_oL); assumption)
    | ((with_reducible apply gCmp_oR); assumption)
    | ((with_reducible apply gCmp_oL'); assumption)
    | ((with_reducible apply gCmp_oR'); assumption)
    | ((with_reducible apply gEq_mt) <;> (intro a; first | exact pl_i _ | exact dep_i _ | exact optT_pl _ | exact dep_o _))
    | ((with_reducible apply gNe_mt) <;> (intro a; first | exact pl_i _ | exact dep_i _ | exact optT_pl _ | exact dep_o _))
    | ((with_reducible apply gDix0); assumption)
    | with_reducible exact gDix_rng _ rfl (List.mem_range.mp hc)
    | with_reducible exact optT_flat _
    | with_reducible exact gNe_ints _ _
    | with_reducible exact gInA_int _ _
    | with_reducible exact gNin_int _ _
    | with_reducible exact nil_map
    | with_reducible exact lit_map _ _
    | with_reducible exact enum_int _
    | with_reducible exact enum_rng _ _
    | (simp only [likeAt, Sl.like, frz, mvS, sl, List.getElem?_cons_zero, List.getElem?_cons_succ, List.set_cons_zero, List.set_cons_succ]; first | done | with_reducible exact rfl)
    | (simp only [gTE, gLE, List.length_set, List.length_cons, List.length_nil, Nat.reduceAdd, Nat.reduceLT, ite_true, reduceIte, List.set_cons_zero, List.set_cons_succ]; first | done | with_reducible exact rfl)
    | ((with_reducible apply natlit); exact rfl)
    | (simp only [ini, iniI, List.map_cons, List.map_nil, List.length_cons, List.length_nil, Nat.reduceAdd, Nat.reduceSub, List.replicate, List.cons_append, List.nil_append]; first | done | with_reducible exact rfl)
    | ((with_reducible apply small_of); simp only [List.length_cons, List.length_nil]; decide)
    | ((simp only [List.length_cons, List.length_nil, List.length_set, Nat.reduceAdd, Nat.reduceLT, Nat.reduceLeDiff]); done)
    | ((simp only [List.length_cons, List.length_nil]); decide)
    | with_reducible exact rfl
    | decide))
/-! ### hits and misses with so many places -/
def missP (R : List Int) (p : Int) (i : Nat) : Bool := match distR R i with
  | none => true
  | some d => decide (p ≤ (d : Int))
def A (n : Nat) (p : Nat → Bool) : List Nat := (List.range n).filter p
theorem mem_A {n : Nat} {p : Nat → Bool} {i : Nat} : i ∈ A n p ↔ i < n ∧ p i = true := by unfold A; rw [List.mem_filter, List.mem_range]
theorem A_len (n : Nat) (p : Nat → Bool) : (A n p).length ≤ n := by
  unfold A
  have := List.length_filter_le p (List.range n)
  rw [List.length_range] at this; exact this
def missN (R : List Int) (p : Int) : Int := ((A R.length (missP R p)).length : Nat)
def curveR (R : List Int) : List Int := (List.range 26).map fun (i : Nat) => missN R (1 + (i : Int))
def plain : List Int := List.replicate 26 1
theorem plain_len : plain.length = 26 := rfl
theorem sum_ones {α : Type} (l : List α) : (l.map fun _ => (1 : Int)).sum = (l.length : Nat) := by
  induction l with
  | nil => rfl
  | cons a l ih => rw [List.map_cons, List.sum_cons, ih, List.length_cons]; omega
theorem e_are_weights : m_are_weights [rowT plain] = .ok (.bl true) := by
  have hl : plain.length ≤ 1000000 := by decide
  refine runP_is (g := g_are_weights) rfl ?_; apply Exists.intro; apply And.intro; (simp only [ini, iniI, List.map_cons, List.map_nil, List.length_cons, List.length_nil, Nat.reduceAdd, Nat.reduceSub, List.replicate, List.cons_append, List.nil_append]; with_reducible exact rfl); unfold g_are_weights
  exists e_count _, hl
  exact blE fun a ha => by
    have := List.eq_of_mem_replicate ha
    subst this; rfl
theorem e_check_weights : m_check_weights [rowT plain] = .ok .non := by
  refine runP_is (g := g_check_weights) rfl ?_; apply Exists.intro; apply And.intro; (simp only [ini, iniI, List.map_cons, List.map_nil, List.length_cons, List.length_nil, Nat.reduceAdd, Nat.reduceSub, List.replicate, List.cons_append, List.nil_append]; with_reducible exact rfl); unfold g_check_weights
  exists e_are_weights
theorem e_unused_curve {R : List Int} (h : Rw R) : m_unused_curve [rowT R, rowT plain] = .ok (rowT (curveR R)) := by
  have hn := h.hi
  have hb : (0 : Int) ≤ 1 ∧ (1 : Int) ≤ 1000000 := by decide
  have hb2 : (0 : Int) ≤ 26 + 1 ∧ (26 : Int) + 1 ≤ 1000000 := by decide
  have hlr : (List.range R.length).length ≤ 1000000 := by rw [List.length_range]; omega
  refine runP_is (g := g_unused_curve) rfl ?_; apply Exists.intro; apply And.intro; (simp only [ini, iniI, List.map_cons, List.map_nil, List.length_cons, List.length_nil, Nat.reduceAdd, Nat.reduceSub, List.replicate, List.cons_append, List.nil_append]; with_reducible exact rfl); unfold g_unused_curve
  exists e_check_row h, e_check_weights, e_distances hn, hb, hb2
  refine ⟨fun i ρ => ∃ s4 s5, ρ = [.gd .old (rowT R), .gd .old (rowT plain), .fz (dsT R), .ow (rowT ((List.range i).map fun (i : Nat) => missN R (1 + (i : Int)))), s4, s5, .un, .un], ⟨_, _, rfl⟩, ?_, ?_⟩
  · rintro i t ρ ht ⟨s4, s5, rfl⟩
    obtain ⟨hi, rfl⟩ := List.getElem?_eq_some_iff.mp ht
    rw [List.length_map, List.length_range] at hi
    rw [List.getElem_map, List.getElem_range]
    have hi : i < 26 := hi
    have hf : (List.range R.length).filter (fun a => (optT (distR R a)).isN || decide (1 + (i : Int) ≤ oget (distR R a))) = A R.length (missP R (1 + (i : Int))) := by
      unfold A
      congr 1; funext a
      unfold missP
      cases distR R a <;> rfl
    have hfT : T.lst (((List.range R.length).filter (fun a => (optT (distR R a)).isN || decide (1 + (i : Int) ≤ oget (distR R a)))).map fun (a : Nat) => T.int (a : Int)) = natsT (A R.length (missP R (1 + (i : Int)))) := by rw [hf]
    have hAl : (A R.length (missP R (1 + (i : Int)))).length ≤ 1000000 := Nat.le_trans (A_len _ _) (by omega)
    have hrw : ∀ a ∈ A R.length (missP R (1 + (i : Int))), gDix (rowT R) (.int (a : Nat)) = some (.int (R.getD a 0)) := fun a ha => gIx_int (mem_A.mp ha).1
    have hw : ∀ a ∈ A R.length (missP R (1 + (i : Int))), gDix (rowT plain) (.int (R.getD a 0)) = some (.int 1) := fun a ha => by
      have h1 := h.el _ (getD_mem (mem_A.mp ha).1)
      have hr : ∀ n : Nat, n < 26 → plain.getD n 0 = 1 := by decide
      have := gDix_at (l := plain) (k := R.getD a 0) h1.1 (by show _ < ((26 : Nat) : Int); omega)
      rw [hr _ (by omega)] at this; exact this
    have hs : gSum [.lst ((A R.length (missP R (1 + (i : Int)))).map fun _ => T.int 1)] = some (.int (missN R (1 + (i : Int)))) := by
      have e : ((A R.length (missP R (1 + (i : Int)))).map fun _ => T.int 1) = ((A R.length (missP R (1 + (i : Int)))).map fun _ => (1 : Int)).map T.int := by rw [List.map_map]; rfl
      rw [e, gSum_int, sum_ones]; rfl
    have hrl : (((List.range i).map fun (i : Nat) => missN R (1 + (i : Int))).map T.int).length < 16777216 := by rw [List.length_map, List.length_map, List.length_range]; omega
    refine ⟨_, rfl, ?_⟩
    exists hlr, hfT, hAl, hrw _ (by assumption), hw _ (by assumption), hs, hrl
    have e1 : ((List.range i).map fun (i : Nat) => missN R (1 + (i : Int))).map T.int ++ [T.int (missN R (1 + (i : Int)))] = ((List.range (i + 1)).map fun (i : Nat) => missN R (1 + (i : Int))).map T.int := by rw [List.range_succ, List.map_append, List.map_append]; rfl
    rw [e1]
    apply Exists.intro; apply Exists.intro
    rfl
  · rintro ρ ⟨s4, s5, rfl⟩
    rw [List.length_map, List.length_range]
    exists hn
    exact rfl
theorem e_unused_hits {R : List Int} (h : Rw R) {p : Int} (h1 : 1 ≤ p) (h2 : p ≤ 26) : m_unused_hits [rowT R, .int p] = .ok (natsT (A R.length fun i => !missP R p i)) := by
  have hn := h.hi
  have hlr : (List.range R.length).length ≤ 1000000 := by rw [List.length_range]; omega
  have hf : T.lst (((List.range R.length).filter (fun a => !(optT (distR R a)).isN && decide (oget (distR R a) < p))).map fun (a : Nat) => T.int (a : Int)) = natsT (A R.length fun i => !missP R p i) := by
    unfold A natsT
    congr 3
    funext a
    unfold missP
    cases distR R a with
    | none => rfl
    | some d =>
      show (true && decide ((d : Int) < p)) = !decide (p ≤ (d : Int))
      by_cases z : p ≤ (d : Int)
      · rw [decide_eq_true z, decide_eq_false (by omega)]; rfl
      · rw [decide_eq_false z, decide_eq_true (by omega)]; rfl
  refine runP_is (g := g_unused_hits) rfl ?_; apply Exists.intro; apply And.intro; (simp only [ini, iniI, List.map_cons, List.map_nil, List.length_cons, List.length_nil, Nat.reduceAdd, Nat.reduceSub, List.replicate, List.cons_append, List.nil_append]; with_reducible exact rfl); unfold g_unused_hits
  exists e_check_row h, e_check_places h1 h2, e_distances hn, hlr, hf
/-! ### asks that were seen -/
theorem A_up (n : Nat) (p : Nat → Bool) : (A n p).Pairwise (· < ·) := List.Pairwise.filter _ List.pairwise_lt_range
theorem A_get {n : Nat} {p : Nat → Bool} {i j : Nat} (hij : i < j) (hj : j < (A n p).length) : (A n p).getD i 0 < (A n p).getD j 0 := by
  have h := A_up n p
  rw [List.pairwise_iff_getElem] at h
  have := h i j (by omega) hj hij
  rw [List.getD_eq_getElem?_getD, List.getD_eq_getElem?_getD, List.getElem?_eq_getElem hj, List.getElem?_eq_getElem (by omega)]
  exact this
theorem gIx_nats {l : List Nat} {i : Nat} (h : i < l.length) : gDix (natsT l) (.int (i : Nat)) = some (.int ((l.getD i 0 : Nat) : Int)) := by
  refine gDix_map (fun (i : Nat) => T.int (i : Int)) rfl ?_
  rw [List.getD_eq_getElem?_getD, List.getElem?_eq_getElem h]; rfl
theorem e_are_asks {R : List Int} (h : Rw R) (p : Nat → Bool) : m_are_asks_of [rowT R, natsT (A R.length p)] = .ok (.bl true) := by
  have hn := h.hi
  have hA := A_len R.length p
  have hl : (A R.length p).length ≤ 1000000 := by omega
  have hlr : (List.range (((A R.length p).length : Int) - 1).toNat).length ≤ 1000000 := by rw [List.length_range]; omega
  have hb : (0 : Int) ≤ ((A R.length p).length : Nat) ∧ (((A R.length p).length : Nat) : Int) ≤ 1000000 := by omega
  have hi : ∀ j : Nat, j ∈ List.range (((A R.length p).length : Int) - 1).toNat → gDix (natsT (A R.length p)) (.int (1 + (j : Int) - 1)) = some (.int (((A R.length p).getD j 0 : Nat) : Int)) := fun j hj => by
    have := List.mem_range.mp hj
    have e : 1 + (j : Int) - 1 = (j : Nat) := by omega
    rw [e]; exact gIx_nats (by omega)
  have hi' : ∀ j : Nat, j ∈ List.range (((A R.length p).length : Int) - 1).toNat → gDix (natsT (A R.length p)) (.int (1 + (j : Int))) = some (.int (((A R.length p).getD (j + 1) 0 : Nat) : Int)) := fun j hj => by
    have := List.mem_range.mp hj
    have e : 1 + (j : Int) = ((j + 1 : Nat) : Int) := by omega
    rw [e]; exact gIx_nats (by omega)
  have hf : (A R.length p).filter (fun (hc : Nat) => !(decide (0 ≤ (hc : Int)) && decide ((hc : Int) < (R.length : Nat)))) = [] := filt_nil fun a ha => by
    have := (mem_A.mp ha).1
    rw [decide_eq_true (by omega), decide_eq_true (by omega)]; rfl
  refine runP_is (g := g_are_asks_of) rfl ?_; apply Exists.intro; apply And.intro; (simp only [ini, iniI, List.map_cons, List.map_nil, List.length_cons, List.length_nil, Nat.reduceAdd, Nat.reduceSub, List.replicate, List.cons_append, List.nil_append]; with_reducible exact rfl); unfold g_are_asks_of
  exists e_below _ _, hl, hlr, hb, hi _ (by assumption), hi' _ (by assumption)
  · rw [hf] at hc; cases hc
  · refine blE fun a ha => ?_
    have := List.mem_range.mp ha
    have := A_get (n := R.length) (p := p) (i := a) (j := a + 1) (by omega) (by omega)
    exact decide_eq_false (by omega)
theorem mem_nats (x : Nat) (l : List Nat) : ((x : Int) ∈ l.map fun (i : Nat) => (i : Int)) ↔ x ∈ l := by
  rw [List.mem_map]
  constructor
  · rintro ⟨y, hy, e⟩
    have : y = x := by omega
    rw [← this]; exact hy
  · intro h; exact ⟨x, h, rfl⟩
theorem gInA_nats (x : Nat) (l : List Nat) : gInA (.int (x : Int)) (natsT l) = some (decide (x ∈ l)) := by
  have e : natsT l = .lst ((l.map fun (i : Nat) => (i : Int)).map T.int) := by unfold natsT; rw [List.map_map]; rfl
  rw [e, gInA_int]
  congr 1
  exact decide_eq_decide.mpr (mem_nats x l)
theorem gNin_nats (x : Nat) (l : List Nat) : gNinA (.int (x : Int)) (natsT l) = some (!decide (x ∈ l)) := by
  have e : natsT l = .lst ((l.map fun (i : Nat) => (i : Int)).map T.int) := by unfold natsT; rw [List.map_map]; rfl
  rw [e, gNin_int]
  congr 2
  exact decide_eq_decide.mpr (mem_nats x l)
theorem e_check_seen {R : List Int} (h : Rw R) {p q : Nat → Bool} (hd : ∀ i, q i = true → p i = false) : m_check_seen [rowT R, natsT (A R.length p), natsT (A R.length q)] = .ok .non := by
  have hn := h.hi
  have hA := A_len R.length q
  have hl : (A R.length q).length ≤ 1000000 := by omega
  have hf : (A R.length q).filter (fun (hc : Nat) => decide (hc ∈ A R.length p)) = [] := filt_nil fun a ha => decide_eq_false fun z => by
    have h1 := hd a (mem_A.mp ha).2
    rw [(mem_A.mp z).2] at h1; cases h1
  refine runP_is (g := g_check_seen) rfl ?_; apply Exists.intro; apply And.intro; (simp only [ini, iniI, List.map_cons, List.map_nil, List.length_cons, List.length_nil, Nat.reduceAdd, Nat.reduceSub, List.replicate, List.cons_append, List.nil_append]; with_reducible exact rfl); unfold g_check_seen
  exists e_check_row h, e_are_asks h _, hl, gInA_nats _ _
  rw [hf] at hc; cases hc
/-- distances of hits -/
def dL (R : List Int) (l : List Nat) : List Int := l.map fun a => oget (distR R a)
def leastP (R : List Int) (p : Nat → Bool) : Int := 1 + maxL (dL R (A R.length p) ++ [0])
def greatP (R : List Int) (q : Nat → Bool) : Int := minL (dL R ((A R.length q).filter fun a => !(distR R a).isNone) ++ [26])
theorem gDix_ds {R : List Int} {a : Nat} (h : a < R.length) : gDix (dsT R) (.int (a : Nat)) = some (optT (distR R a)) := gDix_rng _ rfl h
theorem e_firsts {R : List Int} (h : Rw R) {p : Nat → Bool} (hp : ∀ i, i < R.length → p i = true → distR R i ≠ none) : m_firsts_among [rowT R, natsT (A R.length p)] = .ok .non := by
  have hn := h.hi
  have hA := A_len R.length p
  have hl : (A R.length p).length ≤ 1000000 := by omega
  have hix : ∀ a ∈ A R.length p, gDix (dsT R) (.int (a : Nat)) = some (optT (distR R a)) := fun a ha => gDix_ds (mem_A.mp ha).1
  have hf : (A R.length p).filter (fun (a : Nat) => (optT (distR R a)).isN) = [] := filt_nil fun a ha => by
    have := hp a (mem_A.mp ha).1 (mem_A.mp ha).2
    cases e : distR R a with
    | none => exact absurd e this
    | some d => rfl
  refine runP_is (g := g_firsts_among) rfl ?_; apply Exists.intro; apply And.intro; (simp only [ini, iniI, List.map_cons, List.map_nil, List.length_cons, List.length_nil, Nat.reduceAdd, Nat.reduceSub, List.replicate, List.cons_append, List.nil_append]; with_reducible exact rfl); unfold g_firsts_among
  exists e_distances hn, hl, hix _ (by assumption)
  rw [hf]; rfl
theorem gMin1_int {l : List Int} (h : l ≠ []) : gMin1 [.lst (l.map T.int)] = some (.int (minL l)) := by
  show (T.ints (l.map T.int)).bind _ = _
  rw [ints_map]
  show (if l = [] then none else some (T.int (minL l))) = _
  rw [if_neg h]
theorem e_ends {R : List Int} (h : Rw R) {p q : Nat → Bool} (hp : ∀ i, i < R.length → p i = true → distR R i ≠ none) : m_ends_of [rowT R, natsT (A R.length p), natsT (A R.length q)] = .ok (.tup [.int (leastP R p), .int (greatP R q)]) := by
  have hn := h.hi
  have hA := A_len R.length p
  have hB := A_len R.length q
  have hl : (A R.length p).length ≤ 1000000 := by omega
  have hl2 : (A R.length q).length ≤ 1000000 := by omega
  have hix : ∀ a ∈ A R.length p, gDix (dsT R) (.int (a : Nat)) = some (.int (oget (distR R a))) := fun a ha => by
    rw [gDix_ds (mem_A.mp ha).1]
    have := hp a (mem_A.mp ha).1 (mem_A.mp ha).2
    cases e : distR R a with
    | none => exact absurd e this
    | some d => rfl
  have hix2 : ∀ a ∈ A R.length q, gDix (dsT R) (.int (a : Nat)) = some (optT (distR R a)) := fun a ha => gDix_ds (mem_A.mp ha).1
  have hix3 : ∀ a, (!(optT (distR R a)).isN) = true → a ∈ A R.length q → gDix (dsT R) (.int (a : Nat)) = some (.int (oget (distR R a))) := fun a hz ha => by
    rw [gDix_ds (mem_A.mp ha).1]
    cases e : distR R a with
    | none => rw [e] at hz; cases hz
    | some d => rfl
  have c1 : gCat (.lst ((A R.length p).map fun a => T.int (oget (distR R a)))) (.lst [.int 0]) = some (rowT (dL R (A R.length p) ++ [0])) := by
    have e : ((A R.length p).map fun a => T.int (oget (distR R a))) = (dL R (A R.length p)).map T.int := by unfold dL; rw [List.map_map]; rfl
    rw [e]
    exact gCat_map T.int (a := dL R (A R.length p)) (b := [0]) (by unfold dL; rw [List.length_map, List.length_singleton]; omega)
  have m1 : gMax1 [rowT (dL R (A R.length p) ++ [0])] = some (.int (maxL (dL R (A R.length p) ++ [0]))) := gMax1_int (by simp)
  have ef : (A R.length q).filter (fun a => !(optT (distR R a)).isN) = (A R.length q).filter fun a => !(distR R a).isNone := by
    congr 1; funext a; rw [optT_isN]
  have c2 : gCat (.lst (((A R.length q).filter fun a => !(optT (distR R a)).isN).map fun a => T.int (oget (distR R a)))) (.lst [.int 26]) = some (rowT (dL R ((A R.length q).filter fun a => !(distR R a).isNone) ++ [26])) := by
    have e : (((A R.length q).filter fun a => !(optT (distR R a)).isN).map fun a => T.int (oget (distR R a))) = (dL R ((A R.length q).filter fun a => !(distR R a).isNone)).map T.int := by unfold dL; rw [List.map_map, ef]; rfl
    rw [e]
    have := List.length_filter_le (fun a => !(distR R a).isNone) (A R.length q)
    exact gCat_map T.int (a := dL R ((A R.length q).filter fun a => !(distR R a).isNone)) (b := [26]) (by unfold dL; rw [List.length_map, List.length_singleton]; omega)
  have m2 : gMin1 [rowT (dL R ((A R.length q).filter fun a => !(distR R a).isNone) ++ [26])] = some (.int (greatP R q)) := gMin1_int (by simp)
  refine runP_is (g := g_ends_of) rfl ?_; apply Exists.intro; apply And.intro; (simp only [ini, iniI, List.map_cons, List.map_nil, List.length_cons, List.length_nil, Nat.reduceAdd, Nat.reduceSub, List.replicate, List.cons_append, List.nil_append]; with_reducible exact rfl); unfold g_ends_of
  exists e_distances hn, hl, hl2, hix _ (by assumption), hix3 _ (by assumption) (by assumption), hix2 _ (by assumption), c1, m1, c2, m2
  exact rfl
end K27

set_option Elab.async false
set_option linter.all false
set_option maxRecDepth 100000
set_option maxHeartbeats 4000000
namespace K27
open PySem TL L2
set_option hygiene false in
local macro_rules
  | `(tactic| exists $ts,*) => `(tactic| repeat' (first
    $[| with_reducible exact $ts]*
    | ((with_reducible intro hc); first | (cases hc; done) | skip)
    | with_reducible exact c_ok
    | ((with_reducible apply v_ok); exact rfl)
    | with_reducible exact nil_ok
    | with_reducible exact x_noPart
    | with_reducible apply liftS_ok
    | with_reducible apply cons_ok
    | with_reducible apply op_ok
    | with_reducible apply b_ok
    | with_reducible apply f_ok
    | with_reducible apply u_ok
    | with_reducible apply call_ok
    | with_reducible apply x_and
    | with_reducible apply x_or
    | with_reducible apply x_andV
    | with_reducible apply x_orV
    | with_reducible apply x_notV
    | with_reducible apply x_not
    | with_reducible apply x_if
    | with_reducible apply x_ch
    | with_reducible apply x_isN
    | with_reducible apply x_notN
    | with_reducible apply x_lst
    | with_reducible apply x_tup
    | with_reducible apply x_itL
    | with_reducible apply x_itT
    | with_reducible apply x_enum
    | with_reducible apply x_rng1
    | with_reducible apply x_rng2
    | ((with_reducible apply y_lc0); exact rfl; (with_reducible exact rfl))
    | with_reducible apply y_lcA
    | with_reducible apply y_lc
    | ((with_reducible apply lcA_in); (intro a; exact rfl))
    | ((with_reducible apply lcS_in); (intro a; exact rfl))
    | with_reducible apply x_sl
    | with_reducible apply x_part
    | with_reducible apply x_truB
    | with_reducible apply x_ofB
    | with_reducible apply x_lm
    | with_reducible apply x_lr1
    | with_reducible apply x_lr2
    | with_reducible apply w_seq
    | with_reducible apply qs_frz
    | with_reducible apply qs_nx
    | with_reducible apply qs_rt
    | with_reducible apply qs_bk
    | with_reducible apply qs_ct
    | with_reducible apply ql_nx
    | with_reducible apply ql_ct
    | with_reducible apply ql_bk
    | with_reducible apply ql_rt
    | with_reducible apply qp_rt
    | with_reducible apply qp_nx
    | with_reducible apply w_nx
    | with_reducible apply w_bk
    | with_reducible apply w_ct
    | with_reducible apply w_if
    | with_reducible apply w_asgLc
    | with_reducible apply w_asg
    | with_reducible apply w_app
    | with_reducible apply w_set
    | with_reducible apply w_par
    | with_reducible apply w_par3
    | with_reducible apply w_tup
    | with_reducible apply w_drop
    | with_reducible apply w_ret
    | with_reducible apply w_for
    | ((with_reducible apply qi_rt); exact rfl)
    | ((with_reducible apply qi_nx); exact rfl)
    | with_reducible exact eNil_ok
    | with_reducible exact y_noPart
    | with_reducible apply y_part
    | with_reducible apply y_sl
    | with_reducible apply y_u
    | with_reducible apply y_ofB
    | with_reducible apply y_if
    | with_reducible apply eNot_ok
    | with_reducible apply eTru_ok
    | with_reducible apply y_rng1
    | with_reducible apply liftVT_ok
    | with_reducible apply liftV_ok
    | with_reducible exact flat_i _
    | with_reducible exact flat_n
    | with_reducible exact flat_b _
    | with_reducible exact flat_s _
    | with_reducible apply x_eLst
    | with_reducible apply x_eTup
    | with_reducible apply eOp_ok
    | with_reducible apply eB_ok
    | with_reducible apply eF_ok
    | with_reducible apply eCons_ok
    | with_reducible apply eCall_ok
    | with_reducible apply x_eIo
    | ((with_reducible apply own_ok); exact rfl)
    | with_reducible exact gAdd_i _ _
    | with_reducible exact gSub_i _ _
    | with_reducible exact gNeg_i _
    | with_reducible exact gCmp_i _ _ _
    | with_reducible exact gInt1_i _
    | with_reducible exact gIsi_ll _
    | with_reducible exact gIsi_ii _
    | with_reducible exact gIsi_ib _
    | with_reducible exact len_map _ _
    | with_reducible exact gMax2_i _ _
    | with_reducible exact gSum_int _
    | with_reducible exact gEq_int _ _
    | with_reducible exact gNe_int _ _
    | with_reducible exact gEq_ints _ _
    | ((with_reducible apply gCmp_oL); assumption)
    | ((with_reducible apply gCmp_oR); assumption)
    | ((with_reducible apply gCmp_oL'); assumption)
    | ((with_reducible apply gCmp_oR'); assumption)
    | ((with_reducible apply gEq_mt) <;> (intro a; first | exact pl_i _ | exact dep_i _ | exact optT_pl _ | exact dep_o _))
    | ((with_reducible apply gNe_mt) <;> (intro a; first | exact pl_i _ | exact dep_i _ | exact optT_pl _ | exact dep_o _))
    | ((with_reducible apply gDix0); assumption)
    | with_reducible exact gDix_rng _ rfl (List.mem_range.mp hc)
    | with_reducible exact optT_flat _
    | with_reducible exact gNe_ints _ _
    | with_reducible exact gInA_int _ _
    | with_reducible exact gNin_int _ _
    | with_reducible exact nil_map
    | with_reducible exact lit_map _ _
    | with_reducible exact enum_int _
    | with_reducible exact enum_rng _ _
    | (simp only [likeAt, Sl.like, frz, mvS, sl, List.getElem?_cons_zero, List.getElem?_cons_succ, List.set_cons_zero, List.set_cons_succ]; first | done | with_reducible exact rfl)
    | (simp only [gTE, gLE, List.length_set, List.length_cons, List.length_nil, Nat.reduceAdd, Nat.reduceLT, ite_true, reduceIte, List.set_cons_zero, List.set_cons_succ]; first | done | with_reducible exact rfl)
    | ((with_reducible apply natlit); exact rfl)
    | (simp only [ini, iniI, List.map_cons, List.map_nil, List.length_cons, List.length_nil, Nat.reduceAdd, Nat.reduceSub, List.replicate, List.cons_append, List.nil_append]; first | done | with_reducible exact rfl)
    | ((with_reducible apply small_of); simp only [List.length_cons, List.length_nil]; decide)
    | ((simp only [List.length_cons, List.length_nil, List.length_set, Nat.reduceAdd, Nat.reduceLT, Nat.reduceLeDiff]); done)
    | ((simp only [List.length_cons, List.length_nil]); decide)
    | with_reducible exact rfl
    | decide))
theorem least_le {R : List Int} {p : Nat → Bool} {x : Int} : leastP R p ≤ x ↔ 1 ≤ x ∧ ∀ i, i < R.length → p i = true → oget (distR R i) < x := by
  unfold leastP
  have h := maxL_le (l := dL R (A R.length p) ++ [0]) (b := x - 1) (by simp)
  have e : (1 + maxL (dL R (A R.length p) ++ [0]) ≤ x) ↔ maxL (dL R (A R.length p) ++ [0]) ≤ x - 1 := by omega
  rw [e, h]
  constructor
  · intro z
    refine ⟨by have := z 0 (by simp); omega, fun i hi hp => ?_⟩
    have := z (oget (distR R i)) (List.mem_append_left _ (List.mem_map.mpr ⟨i, mem_A.mpr ⟨hi, hp⟩, rfl⟩))
    omega
  · rintro ⟨h1, h2⟩ y hy
    rcases List.mem_append.mp hy with hy | hy
    · obtain ⟨i, hi, rfl⟩ := List.mem_map.mp hy
      have := h2 i (mem_A.mp hi).1 (mem_A.mp hi).2
      omega
    · have := List.mem_singleton.mp hy; omega
theorem le_great {R : List Int} {q : Nat → Bool} {x : Int} : x ≤ greatP R q ↔ x ≤ 26 ∧ ∀ i, i < R.length → q i = true → distR R i ≠ none → x ≤ oget (distR R i) := by
  unfold greatP
  obtain ⟨h1, h2⟩ := minL_spec (ns := dL R ((A R.length q).filter fun a => !(distR R a).isNone) ++ [26]) (by simp)
  constructor
  · intro z
    refine ⟨by have := h2 26 (by simp); omega, fun i hi hq hd => ?_⟩
    have := h2 (oget (distR R i)) (List.mem_append_left _ (List.mem_map.mpr ⟨i, List.mem_filter.mpr ⟨mem_A.mpr ⟨hi, hq⟩, by cases e : distR R i with
      | none => exact absurd e hd
      | some d => rfl⟩, rfl⟩))
    omega
  · rintro ⟨h3, h4⟩
    rcases List.mem_append.mp h1 with hy | hy
    · obtain ⟨i, hi, e⟩ := List.mem_map.mp hy
      obtain ⟨hi1, hi2⟩ := List.mem_filter.mp hi
      rw [← e]
      exact h4 i (mem_A.mp hi1).1 (mem_A.mp hi1).2 fun z => by rw [z] at hi2; cases hi2
    · rw [List.mem_singleton.mp hy]; exact h3
theorem miss_none {R : List Int} {i : Nat} {p : Int} (h : (!missP R p i) = true) : distR R i ≠ none := fun z => by
  unfold missP at h; rw [z] at h; cases h
theorem hit_lt {R : List Int} {i : Nat} {p : Int} (h : (!missP R p i) = true) : oget (distR R i) < p := by
  unfold missP at h
  cases e : distR R i with
  | none => rw [e] at h; cases h
  | some d =>
    rw [e] at h
    have h : (!decide (p ≤ (d : Int))) = true := h
    have := of_decide_eq_false (by simpa using h : decide (p ≤ (d : Int)) = false)
    show (d : Int) < p
    omega
theorem miss_le {R : List Int} {i : Nat} {p : Int} (h : missP R p i = true) (hd : distR R i ≠ none) : p ≤ oget (distR R i) := by
  unfold missP at h
  cases e : distR R i with
  | none => exact absurd e hd
  | some d =>
    rw [e] at h
    exact of_decide_eq_true h
section
variable {R : List Int} {s : Int}
theorem ends_at (h1 : 1 ≤ s) (h2 : s ≤ 26) : leastP R (fun i => !missP R s i) ≤ s ∧ s ≤ greatP R (missP R s) :=
  ⟨least_le.mpr ⟨h1, fun _ _ hp => hit_lt hp⟩, le_great.mpr ⟨h2, fun _ _ hq hd => miss_le hq hd⟩⟩
theorem e_places_or_asks (h : Rw R) (h1 : 1 ≤ s) (h2 : s ≤ 26) : m_places_or_asks [rowT R, natsT (A R.length fun i => !missP R s i), natsT (A R.length (missP R s))]
    = .ok (.tup [.str "places", .tup [.int (leastP R fun i => !missP R s i), .int (greatP R (missP R s))]]) := by
  obtain ⟨e1, e2⟩ := ends_at (R := R) h1 h2
  have t1 : gCmp (fun i j => decide (i < j)) (.int (greatP R (missP R s))) (.int 1) = some false := gCmp_no (decide_eq_false (by omega))
  have t2 : gCmp (fun i j => decide (i ≤ j)) (.int (leastP R fun i => !missP R s i)) (.int (greatP R (missP R s))) = some true := gCmp_yes (decide_eq_true (by omega))
  have hcs := e_check_seen h (p := fun i => !missP R s i) (q := missP R s) fun i z => by rw [z]; rfl
  have hfs := e_firsts h (p := fun i => !missP R s i) fun i _ z => miss_none z
  have hen := e_ends h (p := fun i => !missP R s i) (q := missP R s) fun i _ z => miss_none z
  refine runP_is (g := g_places_or_asks) rfl ?_; apply Exists.intro; apply And.intro; (simp only [ini, iniI, List.map_cons, List.map_nil, List.length_cons, List.length_nil, Nat.reduceAdd, Nat.reduceSub, List.replicate, List.cons_append, List.nil_append]; with_reducible exact rfl); unfold g_places_or_asks
  exists hcs, hfs, hen, t1, t2
/-- whether so many places have what was seen -/
def fitB (R : List Int) (p q : Nat → Bool) (x : Int) : Bool := ((A R.length p).filter fun a => (distR R a).isNone || decide (x ≤ oget (distR R a))).isEmpty && ((A R.length q).filter fun a => !(distR R a).isNone && decide (oget (distR R a) < x)).isEmpty
theorem e_fits (h : Rw R) (p q : Nat → Bool) (x : Int) : m_fits_seen [rowT R, natsT (A R.length p), natsT (A R.length q), .int x] = .ok (.bl (fitB R p q x)) := by
  have hn := h.hi
  have hA := A_len R.length p
  have hB := A_len R.length q
  have hl : (A R.length p).length ≤ 1000000 := by omega
  have hl2 : (A R.length q).length ≤ 1000000 := by omega
  have hix : ∀ a ∈ A R.length p, gDix (dsT R) (.int (a : Nat)) = some (optT (distR R a)) := fun a ha => gDix_ds (mem_A.mp ha).1
  have hix2 : ∀ a ∈ A R.length q, gDix (dsT R) (.int (a : Nat)) = some (optT (distR R a)) := fun a ha => gDix_ds (mem_A.mp ha).1
  refine runP_is (g := g_fits_seen) rfl ?_; apply Exists.intro; apply And.intro; (simp only [ini, iniI, List.map_cons, List.map_nil, List.length_cons, List.length_nil, Nat.reduceAdd, Nat.reduceSub, List.replicate, List.cons_append, List.nil_append]; with_reducible exact rfl); unfold g_fits_seen
  exists e_distances hn, hl, hl2, hix _ (by assumption), hix2 _ (by assumption)
  · unfold fitB
    have e : ((A R.length p).filter fun a => (distR R a).isNone || decide (x ≤ oget (distR R a))) = (A R.length p).filter fun a => (optT (distR R a)).isN || decide (x ≤ oget (distR R a)) := by congr 1; funext a; rw [optT_isN]
    rw [e]
    generalize ((A R.length p).filter fun a => (optT (distR R a)).isN || decide (x ≤ oget (distR R a))).isEmpty = b at hc ⊢
    cases b
    · rfl
    · cases hc
  · unfold fitB
    have e : ((A R.length p).filter fun a => (distR R a).isNone || decide (x ≤ oget (distR R a))) = (A R.length p).filter fun a => (optT (distR R a)).isN || decide (x ≤ oget (distR R a)) := by congr 1; funext a; rw [optT_isN]
    have e2 : ((A R.length q).filter fun a => !(distR R a).isNone && decide (oget (distR R a) < x)) = (A R.length q).filter fun a => !(optT (distR R a)).isN && decide (oget (distR R a) < x) := by congr 1; funext a; rw [optT_isN]
    rw [e, e2]
    generalize ((A R.length p).filter fun a => (optT (distR R a)).isN || decide (x ≤ oget (distR R a))).isEmpty = b at hc ⊢
    cases b
    · cases hc
    · rfl
theorem fit_iff (h : Rw R) (h1 : 1 ≤ s) (h2 : s ≤ 26) {x : Int} (hx : 1 ≤ x) (hx2 : x ≤ 26) : fitB R (fun i => !missP R s i) (missP R s) x = true ↔ leastP R (fun i => !missP R s i) ≤ x ∧ x ≤ greatP R (missP R s) := by
  unfold fitB
  rw [Bool.and_eq_true, List.isEmpty_iff, List.isEmpty_iff, List.filter_eq_nil_iff, List.filter_eq_nil_iff, least_le, le_great]
  constructor
  · rintro ⟨z1, z2⟩
    refine ⟨⟨hx, fun i hi hp => ?_⟩, hx2, fun i hi hq hd => ?_⟩
    · have := z1 i (mem_A.mpr ⟨hi, hp⟩)
      have h3 : ¬ (x ≤ oget (distR R i)) := fun y => this (by rw [decide_eq_true y, Bool.or_true])
      omega
    · have := z2 i (mem_A.mpr ⟨hi, hq⟩)
      have h3 : ¬ (oget (distR R i) < x) := fun y => this (by
        rw [decide_eq_true y, Bool.and_true]
        cases e : distR R i with
        | none => exact absurd e hd
        | some d => rfl)
      omega
  · rintro ⟨⟨_, z1⟩, _, z2⟩
    refine ⟨fun i hi z => ?_, fun i hi z => ?_⟩
    · obtain ⟨hi, hp⟩ := mem_A.mp hi
      have h3 := z1 i hi hp
      have h4 := miss_none hp
      rw [Bool.or_eq_true] at z
      rcases z with z | z
      · rw [Option.isNone_iff_eq_none] at z; exact h4 z
      · have := of_decide_eq_true z; omega
    · obtain ⟨hi, hq⟩ := mem_A.mp hi
      rw [Bool.and_eq_true] at z
      have h3 := z2 i hi hq fun y => by rw [y] at z; cases z.1
      have := of_decide_eq_true z.2; omega
theorem rng_filter {a b : Int} (ha : 1 ≤ a) (hb : b ≤ 26) (hab : a ≤ b) : ((List.range 26).filter fun (i : Nat) => decide (a ≤ 1 + (i : Int)) && decide (1 + (i : Int) ≤ b)).map (fun (i : Nat) => T.int (1 + (i : Int))) = (List.range (b + 1 - a).toNat).map fun (i : Nat) => T.int (a + (i : Int)) := by
  obtain ⟨m, rfl⟩ : ∃ m : Nat, a = 1 + (m : Int) := ⟨(a - 1).toNat, by omega⟩
  obtain ⟨k, rfl⟩ : ∃ k : Nat, b = (m : Int) + 1 + (k : Int) := ⟨(b - m - 1).toNat, by omega⟩
  have hk : m + k + 1 ≤ 26 := by omega
  have e1 : ((m : Int) + 1 + (k : Int) + 1 - (1 + (m : Int))).toNat = k + 1 := by omega
  rw [e1]
  have e2 : (fun (i : Nat) => decide (1 + (m : Int) ≤ 1 + (i : Int)) && decide (1 + (i : Int) ≤ (m : Int) + 1 + (k : Int))) = fun i => decide (m ≤ i) && decide (i < m + (k + 1)) := by
    funext i
    congr 1
    · exact decide_eq_decide.mpr (by omega)
    · exact decide_eq_decide.mpr (by omega)
  rw [e2]
  have key : ∀ n, m + (k + 1) ≤ n → (List.range n).filter (fun i => decide (m ≤ i) && decide (i < m + (k + 1))) = (List.range (k + 1)).map fun i => m + i := by
    intro n hn
    have e3 : List.range n = List.range m ++ (List.range (k + 1)).map (fun i => m + i) ++ (List.range (n - (m + (k + 1)))).map fun i => m + (k + 1) + i := by
      rw [← List.range_add, ← List.range_add]
      congr 1; omega
    rw [e3, List.filter_append, List.filter_append]
    have a1 : (List.range m).filter (fun i => decide (m ≤ i) && decide (i < m + (k + 1))) = [] := filt_nil fun i hi => by
      have := List.mem_range.mp hi
      rw [decide_eq_false (by omega)]; rfl
    have a2 : ((List.range (n - (m + (k + 1)))).map fun i => m + (k + 1) + i).filter (fun i => decide (m ≤ i) && decide (i < m + (k + 1))) = [] := filt_nil fun i hi => by
      obtain ⟨j, _, rfl⟩ := List.mem_map.mp hi
      rw [decide_eq_false (by omega : ¬ m + (k + 1) + j < m + (k + 1)), Bool.and_false]
    have a3 : ((List.range (k + 1)).map fun i => m + i).filter (fun i => decide (m ≤ i) && decide (i < m + (k + 1))) = (List.range (k + 1)).map fun i => m + i := List.filter_eq_self.mpr fun i hi => by
      obtain ⟨j, hj, rfl⟩ := List.mem_map.mp hi
      have := List.mem_range.mp hj
      rw [decide_eq_true (by omega), decide_eq_true (by omega)]; rfl
    rw [a1, a2, a3]; simp
  rw [key 26 (by omega), List.map_map]
  apply List.map_congr_left
  intro i _
  show T.int (1 + ((m + i : Nat) : Int)) = T.int (1 + (m : Int) + (i : Int))
  congr 1; omega
theorem e_places_seen (h : Rw R) (h1 : 1 ≤ s) (h2 : s ≤ 26) : m_places_seen [rowT R, natsT (A R.length fun i => !missP R s i), natsT (A R.length (missP R s))]
    = .ok (.lst ((List.range (greatP R (missP R s) + 1 - leastP R fun i => !missP R s i).toNat).map fun (i : Nat) => T.int ((leastP R fun i => !missP R s i) + (i : Int)))) := by
  obtain ⟨e1, e2⟩ := ends_at (R := R) h1 h2
  have hl1 : 1 ≤ leastP R fun i => !missP R s i := (least_le.mp (Int.le_refl _)).1
  have hg1 : greatP R (missP R s) ≤ 26 := (le_great.mp (Int.le_refl _)).1
  have hcs := e_check_seen h (p := fun i => !missP R s i) (q := missP R s) fun i z => by rw [z]; rfl
  have hb : (0 : Int) ≤ 1 ∧ (1 : Int) ≤ 1000000 := by decide
  have hb2 : (0 : Int) ≤ 26 + 1 ∧ (26 : Int) + 1 ≤ 1000000 := by decide
  have hl : (List.range (26 + 1 - 1 : Int).toNat).length ≤ 1000000 := by decide
  refine runP_is (g := g_places_seen) rfl ?_; apply Exists.intro; apply And.intro; (simp only [ini, iniI, List.map_cons, List.map_nil, List.length_cons, List.length_nil, Nat.reduceAdd, Nat.reduceSub, List.replicate, List.cons_append, List.nil_append]; with_reducible exact rfl); unfold g_places_seen
  exists hcs, hb, hb2, e_fits h _ _ _, hl
  have e : (List.range (26 + 1 - 1 : Int).toNat).filter (fun (i : Nat) => fitB R (fun i => !missP R s i) (missP R s) (1 + (i : Int))) = (List.range 26).filter fun (i : Nat) => decide ((leastP R fun i => !missP R s i) ≤ 1 + (i : Int)) && decide (1 + (i : Int) ≤ greatP R (missP R s)) := by
    refine List.filter_congr fun i hi => ?_
    have hi : i < 26 := List.mem_range.mp hi
    have := fit_iff h h1 h2 (x := 1 + (i : Int)) (by omega) (by omega)
    rw [Bool.eq_iff_iff, this, Bool.and_eq_true, decide_eq_true_iff, decide_eq_true_iff]
  rw [e, rng_filter hl1 hg1 (by omega)]
end
end K27

set_option Elab.async false
set_option linter.all false
set_option maxRecDepth 100000
set_option maxHeartbeats 4000000
namespace K27
open PySem TL L2
set_option hygiene false in
local macro_rules
  | `(tactic| exists $ts,*) => `(tactic| repeat' (first
    $[| with_reducible exact $ts]*
    | ((with_reducible intro hc); first | (cases hc; done) | skip)
    | with_reducible exact c_ok
    | ((with_reducible apply v_ok); exact rfl)
    | with_reducible exact nil_ok
    | with_reducible exact x_noPart
    | with_reducible apply liftS_ok
    | with_reducible apply cons_ok
    | with_reducible apply op_ok
    | with_reducible apply b_ok
    | with_reducible apply f_ok
    | with_reducible apply u_ok
    | with_reducible apply call_ok
    | with_reducible apply x_and
    | with_reducible apply x_or
    | with_reducible apply x_andV
    | with_reducible apply x_orV
    | with_reducible apply x_notV
    | with_reducible apply x_not
    | with_reducible apply x_if
    | with_reducible apply x_ch
    | with_reducible apply x_isN
    | with_reducible apply x_notN
    | with_reducible apply x_lst
    | with_reducible apply x_tup
    | with_reducible apply x_itL
    | with_reducible apply x_itT
    | with_reducible apply x_enum
    | with_reducible apply x_rng1
    | with_reducible apply x_rng2
    | ((with_reducible apply y_lc0); exact rfl; (with_reducible exact rfl))
    | with_reducible apply y_lcA
    | with_reducible apply y_lc
    | ((with_reducible apply lcA_in); (intro a; exact rfl))
    | ((with_reducible apply lcS_in); (intro a; exact rfl))
    | with_reducible apply x_sl
    | with_reducible apply x_part
    | with_reducible apply x_truB
    | with_reducible apply x_ofB
    | with_reducible apply x_lm
    | with_reducible apply x_lr1
    | with_reducible apply x_lr2
    | with_reducible apply w_seq
    | with_reducible apply qs_frz
    | with_reducible apply qs_nx
    | with_reducible apply qs_rt
    | with_reducible apply qs_bk
    | with_reducible apply qs_ct
    | with_reducible apply ql_nx
    | with_reducible apply ql_ct
    | with_reducible apply ql_bk
    | with_reducible apply ql_rt
    | with_reducible apply qp_rt
    | with_reducible apply qp_nx
    | with_reducible apply w_nx
    | with_reducible apply w_bk
    | with_reducible apply w_ct
    | with_reducible apply w_if
    | with_reducible apply w_asgLc
    | with_reducible apply w_asg
    | with_reducible apply w_app
    | with_reducible apply w_set
    | with_reducible apply w_par
    | with_reducible apply w_par3
    | with_reducible apply w_tup
    | with_reducible apply w_drop
    | with_reducible apply w_ret
    | with_reducible apply w_for
    | ((with_reducible apply qi_rt); exact rfl)
    | ((with_reducible apply qi_nx); exact rfl)
    | with_reducible exact eNil_ok
    | with_reducible exact y_noPart
    | with_reducible apply y_part
    | with_reducible apply y_sl
    | with_reducible apply y_u
    | with_reducible apply y_ofB
    | with_reducible apply y_if
    | with_reducible apply eNot_ok
    | with_reducible apply eTru_ok
    | with_reducible apply y_rng1
    | with_reducible apply liftVT_ok
    | with_reducible apply liftV_ok
    | with_reducible exact flat_i _
    | with_reducible exact flat_n
    | with_reducible exact flat_b _
    | with_reducible exact flat_s _
    | with_reducible apply x_eLst
    | with_reducible apply x_eTup
    | with_reducible apply eOp_ok
    | with_reducible apply eB_ok
    | with_reducible apply eF_ok
    | with_reducible apply eCons_ok
    | with_reducible apply eCall_ok
    | with_reducible apply x_eIo
    | ((with_reducible apply own_ok); exact rfl)
    | with_reducible exact gAdd_i _ _
    | with_reducible exact gSub_i _ _
    | with_reducible exact gNeg_i _
    | with_reducible exact gCmp_i _ _ _
    | with_reducible exact gInt1_i _
    | with_reducible exact gIsi_ll _
    | with_reducible exact gIsi_ii _
    | with_reducible exact gIsi_ib _
    | with_reducible exact len_map _ _
    | with_reducible exact gMax2_i _ _
    | with_reducible exact gSum_int _
    | with_reducible exact gEq_int _ _
    | with_reducible exact gNe_int _ _
    | with_reducible exact gEq_ints _ _
    | ((with_reducible apply gCmp_oL); assumption)
    | ((with_reducible apply gCmp_oR); assumption)
    | ((with_reducible apply gCmp_oL'); assumption)
    | ((with_reducible apply gCmp_oR'); assumption)
    | ((with_reducible apply gEq_mt) <;> (intro a; first | exact pl_i _ | exact dep_i _ | exact optT_pl _ | exact dep_o _))
    | ((with_reducible apply gNe_mt) <;> (intro a; first | exact pl_i _ | exact dep_i _ | exact optT_pl _ | exact dep_o _))
    | ((with_reducible apply gDix0); assumption)
    | with_reducible exact gDix_rng _ rfl (List.mem_range.mp hc)
    | with_reducible exact optT_flat _
    | with_reducible exact gNe_ints _ _
    | with_reducible exact gInA_int _ _
    | with_reducible exact gNin_int _ _
    | with_reducible exact nil_map
    | with_reducible exact lit_map _ _
    | with_reducible exact enum_int _
    | with_reducible exact enum_rng _ _
    | (simp only [likeAt, Sl.like, frz, mvS, sl, List.getElem?_cons_zero, List.getElem?_cons_succ, List.set_cons_zero, List.set_cons_succ]; first | done | with_reducible exact rfl)
    | (simp only [gTE, gLE, List.length_set, List.length_cons, List.length_nil, Nat.reduceAdd, Nat.reduceLT, ite_true, reduceIte, List.set_cons_zero, List.set_cons_succ]; first | done | with_reducible exact rfl)
    | ((with_reducible apply natlit); exact rfl)
    | (simp only [ini, iniI, List.map_cons, List.map_nil, List.length_cons, List.length_nil, Nat.reduceAdd, Nat.reduceSub, List.replicate, List.cons_append, List.nil_append]; first | done | with_reducible exact rfl)
    | ((with_reducible apply small_of); simp only [List.length_cons, List.length_nil]; decide)
    | ((simp only [List.length_cons, List.length_nil, List.length_set, Nat.reduceAdd, Nat.reduceLT, Nat.reduceLeDiff]); done)
    | ((simp only [List.length_cons, List.length_nil]); decide)
    | with_reducible exact rfl
    | decide))
theorem gSorted_int (l : List Int) : gSortedA [.lst (l.map T.int)] = some (.lst ((sortL l).map T.int)) := by
  have e : T.lints (.lst (l.map T.int)) = some l := ints_map l
  show ((T.lints (.lst (l.map T.int))).map _).orElse _ = _
  rw [e]; rfl
theorem sort_nats {l : List Nat} (h : l.Pairwise (· < ·)) : gSortedA [natsT l] = some (natsT l) := by
  have e : natsT l = .lst ((l.map fun (i : Nat) => (i : Int)).map T.int) := by unfold natsT; rw [List.map_map]; rfl
  rw [e, gSorted_int]
  congr 3
  refine sorted_uniq (sortL_perm _) (sortL_sorted _) ?_
  rw [List.pairwise_map]
  exact h.imp fun hab => by omega
theorem row_range (R : List Int) : ((List.range R.length).map fun a => T.int (R.getD a 0)) = R.map T.int := by
  apply List.ext_getElem?
  intro i
  rw [List.getElem?_map, List.getElem?_map]
  by_cases h : i < R.length
  · rw [List.getElem?_range h, List.getElem?_eq_getElem h]
    show some (T.int (R.getD i 0)) = some (T.int R[i])
    rw [List.getD_eq_getElem?_getD, List.getElem?_eq_getElem h]; rfl
  · rw [List.getElem?_eq_none (by rw [List.length_range]; omega), List.getElem?_eq_none (by omega)]; rfl
section
variable {R : List Int} {s : Int}
theorem e_pinned (h : Rw R) (h1 : 1 ≤ s) (h2 : s ≤ 26) : m_pinned_misses [rowT R, .int s, .lst []] = .ok (natsT (A R.length (missP R s))) := by
  have hn := h.hi
  have hlr : (List.range R.length).length ≤ 1000000 := by rw [List.length_range]; omega
  have n1 : ∀ x : Int, gNinA (.int x) (.lst []) = some true := fun x => gNin_int x []
  have ef : T.lst (((List.range R.length).filter fun _ => true).map fun (i : Nat) => T.int (i : Int)) = natsT (List.range R.length) := by rw [List.filter_eq_self.mpr fun _ _ => rfl]
  have hix : ∀ a ∈ List.range R.length, gDix (rowT R) (.int (a : Nat)) = some (.int (R.getD a 0)) := fun a ha => gIx_int (List.mem_range.mp ha)
  have er : T.lst ((List.range R.length).map fun a => T.int (R.getD a 0)) = rowT R := by rw [row_range]
  have hd : ∀ a ∈ List.range R.length, gDix (dsT R) (.int (a : Nat)) = some (optT (distR R a)) := fun a ha => gDix_ds (List.mem_range.mp ha)
  have s0 : TL.gSub (.int s) (.int ((([] : List T).length : Nat) : Int)) = some (.int s) := by show some (T.int (s - 0)) = _; rw [Int.sub_zero]
  have em : T.lst (((List.range R.length).filter fun a => (optT (distR R a)).isN || decide (s ≤ oget (distR R a))).map fun (i : Nat) => T.int (i : Int)) = natsT (A R.length (missP R s)) := by
    unfold A natsT
    congr 3
    funext a
    unfold missP
    cases distR R a <;> rfl
  have l0 : gLenA [.lst []] = some (.int ((([] : List T).length : Nat) : Int)) := rfl
  have ad : gAdd (natsT (A R.length (missP R s))) (.lst []) = some (natsT (A R.length (missP R s))) := by
    have := gCat_map (fun (i : Nat) => T.int (i : Int)) (a := A R.length (missP R s)) (b := []) (by have := A_len R.length (missP R s); rw [List.length_nil]; omega)
    rw [List.append_nil] at this
    exact this
  refine runP_is (g := g_pinned_misses) rfl ?_; apply Exists.intro; apply And.intro; (simp only [ini, iniI, List.map_cons, List.map_nil, List.length_cons, List.length_nil, Nat.reduceAdd, Nat.reduceSub, List.replicate, List.cons_append, List.nil_append]; with_reducible exact rfl); unfold g_pinned_misses
  exists n1 _, hlr, ef, hix _ (by assumption), er, e_distances hn, hd _ (by assumption), s0, em, l0, ad, sort_nats (A_up _ _)
theorem e_pinned_fetches (h : Rw R) (h1 : 1 ≤ s) (h2 : s ≤ 26) : m_pinned_fetches [rowT R, .int s, .lst []] = .ok (natsT (A R.length (missP R s))) := by
  have hp : m_are_pins [.int s, .lst []] = .ok (.bl true) := by
    have t1 : gCmp (fun i j => decide (j ≤ i)) (.int ((([] : List T).length : Nat) : Int)) (.int s) = some false := gCmp_no (decide_eq_false (by show ¬ (s ≤ 0); omega))
    have l0 : gLenA [.lst []] = some (.int ((([] : List T).length : Nat) : Int)) := rfl
    have l1 : ([] : List Int).length ≤ 1000000 := by decide
    have r1 : pRng2 (pCons (pC (.int 1)) (pCons (pF gLenA (pCons (pV 1) pNil)) pNil)) (strict [.gd .old (.int s), .gd .old (.lst []), .un, .un]) = .ok [] := rfl
    have g0 : gNe (.lst []) (.lst []) = some false := gNe_ints [] []
    have g1 : gEq (.lst []) (.lst []) = some true := gEq_ints [] []
    refine runP_is (g := g_are_pins) rfl ?_; apply Exists.intro; apply And.intro; (simp only [ini, iniI, List.map_cons, List.map_nil, List.length_cons, List.length_nil, Nat.reduceAdd, Nat.reduceSub, List.replicate, List.cons_append, List.nil_append]; with_reducible exact rfl); unfold g_are_pins
    exists t1, l0, lc_of_nil r1, g0, g1
  have hc : m_check_pins [.int s, .lst []] = .ok .non := by
    refine runP_is (g := g_check_pins) rfl ?_; apply Exists.intro; apply And.intro; (simp only [ini, iniI, List.map_cons, List.map_nil, List.length_cons, List.length_nil, Nat.reduceAdd, Nat.reduceSub, List.replicate, List.cons_append, List.nil_append]; with_reducible exact rfl); unfold g_check_pins
    exists hp
  refine runP_is (g := g_pinned_fetches) rfl ?_; apply Exists.intro; apply And.intro; (simp only [ini, iniI, List.map_cons, List.map_nil, List.length_cons, List.length_nil, Nat.reduceAdd, Nat.reduceSub, List.replicate, List.cons_append, List.nil_append]; with_reducible exact rfl); unfold g_pinned_fetches
  exists e_check_row h, e_check_places h1 h2, hc, e_pinned h h1 h2
theorem e_check_shelves (h1 : 1 ≤ s) (h2 : s ≤ 26) : m_check_shelves [.int 1, .int s] = .ok .non := by
  have hm : TL.gMul (.int 1) (.int s) = some (.int s) := by
    have h32 : (2 : Int) ^ 5 = 32 := rfl
    have n1 : Nn 1 1 := ⟨by decide, by decide⟩
    have n5 : Nn 5 s := ⟨by omega, by rw [h32]; omega⟩
    have := gMul_nn n1 n5 (by decide)
    rw [Int.one_mul] at this; exact this
  have t1 : gCmp (fun i j => decide (j < i)) (.int s) (.int 26) = some false := gCmp_no (decide_eq_false (by omega))
  have p1 : m_is_places [.int s] = .ok (.bl true) := by rw [e_places, decide_eq_true h1, decide_eq_true h2]; rfl
  have p2 : m_is_places [.int 1] = .ok (.bl true) := by rw [e_places]; rfl
  refine runP_is (g := g_check_shelves) rfl ?_; apply Exists.intro; apply And.intro; (simp only [ini, iniI, List.map_cons, List.map_nil, List.length_cons, List.length_nil, Nat.reduceAdd, Nat.reduceSub, List.replicate, List.cons_append, List.nil_append]; with_reducible exact rfl); unfold g_check_shelves
  exists p1, p2, hm, t1
def blT (n : Nat) (f : Nat → Bool) : T := .lst ((List.range n).map fun i => T.bl (f i))
theorem bl_set {n k : Nat} {f : Nat → Bool} {b : Bool} (h : k < n) : storeT (blT n f) (.int (k : Nat)) (.bl b) = some (blT n fun j => if j = k then b else f j) := by
  show (ixN ((List.range n).map fun i => T.bl (f i)).length ((k : Nat) : Int)).map _ = _
  rw [List.length_map, List.length_range, ixN_nat h]
  show some (T.lst _) = some (T.lst _)
  congr 2
  apply List.ext_getElem?
  intro i
  by_cases hi : i = k
  · subst hi
    rw [List.getElem?_set_self (by rw [List.length_map, List.length_range]; exact h), List.getElem?_map, List.getElem?_range h]
    show some (T.bl b) = some (T.bl (if i = i then b else f i))
    rw [if_pos rfl]
  · rw [List.getElem?_set_ne (fun z => hi z.symm), List.getElem?_map, List.getElem?_map]
    by_cases hin : i < n
    · rw [List.getElem?_range hin]
      show some (T.bl (f i)) = some (T.bl (if i = k then b else f i))
      rw [if_neg hi]
    · rw [List.getElem?_eq_none (by rw [List.length_range]; omega)]; rfl
theorem e_shelf_hits (h : Rw R) (h1 : 1 ≤ s) (h2 : s ≤ 26) : m_shelf_hits [rowT R, .int 1, .int s] = .ok (blT R.length fun i => !missP R s i) := by
  have hn := h.hi
  have hlr : (List.range R.length).length ≤ 1000000 := by rw [List.length_range]; omega
  have hrp : gRepN (.lst [.bl false]) (.int (R.length : Nat)) = some (blT R.length fun _ => false) := by
    show (if (-1000000 ≤ ((R.length : Nat) : Int) ∧ ((R.length : Nat) : Int) ≤ 1000000) ∧ 1 * ((R.length : Nat) : Int).toNat ≤ 16777216 then some (T.lst (List.replicate ((R.length : Nat) : Int).toNat [T.bl false]).flatten) else none) = _
    rw [if_pos (by omega), Int.toNat_natCast]
    unfold blT
    congr 2
    rw [List.map_const', List.length_range]
    generalize R.length = n
    induction n with
    | zero => rfl
    | succ n ih => rw [List.replicate_succ, List.flatten_cons, ih, List.replicate_succ]; rfl
  have r1 : ((List.range 1).map fun (i : Nat) => T.int (i : Int)) = [.int 0] := rfl
  have hm : ∀ x : Int, gMod (.int x) (.int 1) = some (.int 0) := fun x => by rw [gMod_int (by decide)]; congr 2; omega
  have q0 : gEq (.int 0) (.int ((0 : Nat) : Int)) = some true := by rw [gEq_int]; rfl
  have ef : T.lst (((List.range R.length).filter fun _ => true).map fun (i : Nat) => T.int (i : Int)) = natsT (List.range R.length) := by rw [List.filter_eq_self.mpr fun _ _ => rfl]
  have hix : ∀ a ∈ List.range R.length, gDix (rowT R) (.int (a : Nat)) = some (.int (R.getD a 0)) := fun a ha => gIx_int (List.mem_range.mp ha)
  have er : T.lst ((List.range R.length).map fun a => T.int (R.getD a 0)) = rowT R := by rw [row_range]
  refine runP_is (g := g_shelf_hits) rfl ?_; apply Exists.intro; apply And.intro; (simp only [ini, iniI, List.map_cons, List.map_nil, List.length_cons, List.length_nil, Nat.reduceAdd, Nat.reduceSub, List.replicate, List.cons_append, List.nil_append]; with_reducible exact rfl); unfold g_shelf_hits
  exists hrp
  refine ⟨fun i ρ => ∃ s4 s5 s6 s7 s8 s9, ρ = [.gd .old (rowT R), .gd .old (.int 1), .gd .old (.int s), .ow (blT R.length fun j => decide (i = 1) && !missP R s j), s4, s5, s6, s7, s8, s9], ⟨_, _, _, _, _, _, rfl⟩, ?_, ?_⟩
  · rintro i t ρ ht ⟨s4, s5, s6, s7, s8, s9, rfl⟩
    obtain ⟨hi, rfl⟩ := List.getElem?_eq_some_iff.mp ht
    rw [List.length_map, List.length_range] at hi
    have hi : i < 1 := hi
    have hi : i = 0 := by omega
    subst hi
    rw [List.getElem_map, List.getElem_range]
    refine ⟨_, rfl, ?_⟩
    exists hlr, hm _, q0, ef, hix _ (by assumption), er, e_distances hn
    refine ⟨fun i ρ => ∃ s6 s9, ρ = [.gd .old (rowT R), .gd .old (.int 1), .gd .old (.int s), .ow (blT R.length fun j => decide (j < i) && !missP R s j), .fz (.int ((0 : Nat) : Int)), .fz (natsT (List.range R.length)), s6, s7, .fz (dsT R), s9], ?_, ?_, ?_⟩
    · have e : (fun j => decide (0 = 1) && !missP R s j) = fun j => decide (j < 0) && !missP R s j := by funext j; rfl
      rw [e]
      apply Exists.intro; apply Exists.intro
      rfl
    · rintro i t ρ ht ⟨s6, s9, rfl⟩
      obtain ⟨hi, rfl⟩ := List.getElem?_eq_some_iff.mp ht
      rw [List.length_map, List.length_range] at hi
      rw [List.getElem_map, List.getElem_range]
      have hd : gDix (dsT R) (.int (i : Nat)) = some (optT (distR R i)) := gDix_ds hi
      have hst := bl_set (f := fun j => decide (j < i) && !missP R s j) (b := !(optT (distR R i)).isN && decide (oget (distR R i) < s)) hi
      have eb : (fun j => if j = i then (!(optT (distR R i)).isN && decide (oget (distR R i) < s)) else (decide (j < i) && !missP R s j)) = fun j => decide (j < i + 1) && !missP R s j := by
        funext j
        by_cases hj : j = i
        · subst hj
          rw [if_pos rfl, decide_eq_true (show j < j + 1 by omega)]
          unfold missP
          cases distR R j with
          | none => rfl
          | some d =>
            show (true && decide ((d : Int) < s)) = (true && !decide (s ≤ (d : Int)))
            by_cases z : s ≤ (d : Int)
            · rw [decide_eq_true z, decide_eq_false (by omega)]; rfl
            · rw [decide_eq_false z, decide_eq_true (by omega)]; rfl
        · rw [if_neg hj]
          congr 1
          exact decide_eq_decide.mpr (by omega)
      rw [eb] at hst
      refine ⟨_, rfl, ?_⟩
      exists hd, hst
      apply Exists.intro; apply Exists.intro
      rfl
    · rintro ρ ⟨s6, s9, rfl⟩
      rw [List.length_map, List.length_range]
      exists hn
      have e : (fun j => decide (0 + 1 = 1) && !missP R s j) = fun j => !missP R s j := by funext j; rfl
      have e2 : (blT R.length fun j => decide (j < R.length) && !missP R s j) = blT R.length fun j => decide (0 + 1 = 1) && !missP R s j := by
        unfold blT
        congr 1
        refine List.map_congr_left fun j hj => ?_
        show T.bl (decide (j < R.length) && !missP R s j) = T.bl (true && !missP R s j)
        rw [decide_eq_true (List.mem_range.mp hj)]
      rw [e2]
      apply Exists.intro; apply Exists.intro; apply Exists.intro
      apply Exists.intro; apply Exists.intro; apply Exists.intro
      rfl
  · rintro ρ ⟨s4, s5, s6, s7, s8, s9, rfl⟩
    exists hn
    exact rfl

def wordB (R : List Int) (s : Int) (i : Nat) : T := if missP R s i = true then (match distR R i with
  | none => .str "first"
  | some d => if s ≤ (d : Int) then .str "full" else .str "shelf") else .str "hit"
theorem e_blames (h : Rw R) (h1 : 1 ≤ s) (h2 : s ≤ 26) : m_blames [rowT R, .int 1, .int s] = .ok (.lst ((List.range R.length).map (wordB R s))) := by
  have hn := h.hi
  have hm : TL.gMul (.int 1) (.int s) = some (.int s) := by
    have h32 : (2 : Int) ^ 5 = 32 := rfl
    have n1 : Nn 1 1 := ⟨by decide, by decide⟩
    have n5 : Nn 5 s := ⟨by omega, by rw [h32]; omega⟩
    have := gMul_nn n1 n5 (by decide)
    rw [Int.one_mul] at this; exact this
  refine runP_is (g := g_blames) rfl ?_; apply Exists.intro; apply And.intro; (simp only [ini, iniI, List.map_cons, List.map_nil, List.length_cons, List.length_nil, Nat.reduceAdd, Nat.reduceSub, List.replicate, List.cons_append, List.nil_append]; with_reducible exact rfl); unfold g_blames
  exists e_check_row h, e_check_shelves h1 h2, e_distances hn, e_shelf_hits h h1 h2
  refine ⟨fun i ρ => ∃ s6 s7, ρ = [.gd .old (rowT R), .gd .old (.int 1), .gd .old (.int s), .fz (dsT R), .fz (blT R.length fun i => !missP R s i), .ow (.lst ((List.range i).map (wordB R s))), s6, s7], ⟨_, _, rfl⟩, ?_, ?_⟩
  · rintro i t ρ ht ⟨s6, s7, rfl⟩
    obtain ⟨hi, rfl⟩ := List.getElem?_eq_some_iff.mp ht
    rw [List.length_map, List.length_range] at hi
    rw [List.getElem_map, List.getElem_range]
    have hix : gDix (blT R.length fun i => !missP R s i) (.int (i : Nat)) = some (.bl (!missP R s i)) := gDix_rng _ rfl hi
    have hsm : ((List.range i).map (wordB R s)).length < 16777216 := by rw [List.length_map, List.length_range]; omega
    have nxt : ∀ t, wordB R s i = t → (List.range i).map (wordB R s) ++ [t] = (List.range (i + 1)).map (wordB R s) := fun t e => by rw [← e, List.range_succ, List.map_append]; rfl
    refine ⟨_, rfl, ?_⟩
    exists hix, hm, hsm
    · have hw : wordB R s i = .str "hit" := by unfold wordB; rw [if_neg (by rw [Bool.not_eq_true'] at hc; rw [hc]; exact Bool.false_ne_true)]
      have := nxt _ hw
      rw [this]
      apply Exists.intro; apply Exists.intro
      rfl
    · have hw : wordB R s i = .str "first" := by
        unfold wordB missP
        cases e : distR R i with
        | none => rfl
        | some d => rw [e] at hc; cases hc
      have := nxt _ hw
      rw [this]
      apply Exists.intro; apply Exists.intro
      rfl
    · have hw : wordB R s i = if decide (s ≤ oget (distR R i)) = true then .str "full" else .str "shelf" := by
        have hc1 : (!missP R s i) = false := by assumption
        unfold wordB
        have hmi : missP R s i = true := by simpa using hc1
        rw [if_pos hmi]
        cases e : distR R i with
        | none => rw [e] at hc; cases hc
        | some d =>
          show (if s ≤ (d : Int) then _ else _) = if decide (s ≤ (d : Int)) = true then _ else _
          simp only [decide_eq_true_iff]
      have := nxt _ hw
      rw [this]
      apply Exists.intro; apply Exists.intro
      rfl
  · rintro ρ ⟨s6, s7, rfl⟩
    rw [List.length_map, List.length_range]
    exists hn
theorem word_ne (i : Nat) : gNe (wordB R s i) (.str "hit") = some (missP R s i) := by
  have a1 : gNe (.str "hit") (.str "hit") = some false := by decide +kernel
  have a2 : gNe (.str "first") (.str "hit") = some true := by decide +kernel
  have a3 : gNe (.str "full") (.str "hit") = some true := by decide +kernel
  have a4 : gNe (.str "shelf") (.str "hit") = some true := by decide +kernel
  unfold wordB
  cases z : missP R s i with
  | false => exact a1
  | true =>
    rw [if_pos rfl]
    cases distR R i with
    | none => exact a2
    | some d =>
      dsimp only
      split
      · exact a3
      · exact a4
/-- whether some distance is just x -/
def hasD (R : List Int) (x : Int) : Bool := decide (∃ i, i < R.length ∧ distR R i = some x.toNat)
end
end K27

set_option Elab.async false
set_option linter.all false
set_option maxRecDepth 100000
set_option maxHeartbeats 4000000
namespace K27
open PySem TL L2
set_option hygiene false in
local macro_rules
  | `(tactic| exists $ts,*) => `(tactic| repeat' (first
    $[| with_reducible exact $ts]*
    | ((with_reducible intro hc); first | (cases hc; done) | skip)
    | with_reducible exact c_ok
    | ((with_reducible apply v_ok); exact rfl)
    | with_reducible exact nil_ok
    | with_reducible exact x_noPart
    | with_reducible apply liftS_ok
    | with_reducible apply cons_ok
    | with_reducible apply op_ok
    | with_reducible apply b_ok
    | with_reducible apply f_ok
    | with_reducible apply u_ok
    | with_reducible apply call_ok
    | with_reducible apply x_and
    | with_reducible apply x_or
    | with_reducible apply x_andV
    | with_reducible apply x_orV
    | with_reducible apply x_notV
    | with_reducible apply x_not
    | with_reducible apply x_if
    | with_reducible apply x_ch
    | with_reducible apply x_isN
    | with_reducible apply x_notN
    | with_reducible apply x_lst
    | with_reducible apply x_tup
    | with_reducible apply x_itL
    | with_reducible apply x_itT
    | with_reducible apply x_enum
    | with_reducible apply x_rng1
    | with_reducible apply x_rng2
    | ((with_reducible apply y_lc0); exact rfl; (with_reducible exact rfl))
    | with_reducible apply y_lcA
    | with_reducible apply y_lc
    | ((with_reducible apply lcA_in); (intro a; exact rfl))
    | ((with_reducible apply lcS_in); (intro a; exact rfl))
    | with_reducible apply x_sl
    | with_reducible apply x_part
    | with_reducible apply x_truB
    | with_reducible apply x_ofB
    | with_reducible apply x_lm
    | with_reducible apply x_lr1
    | with_reducible apply x_lr2
    | with_reducible apply w_seq
    | with_reducible apply qs_frz
    | with_reducible apply qs_nx
    | with_reducible apply qs_rt
    | with_reducible apply qs_bk
    | with_reducible apply qs_ct
    | with_reducible apply ql_nx
    | with_reducible apply ql_ct
    | with_reducible apply ql_bk
    | with_reducible apply ql_rt
    | with_reducible apply qp_rt
    | with_reducible apply qp_nx
    | with_reducible apply w_nx
    | with_reducible apply w_bk
    | with_reducible apply w_ct
    | with_reducible apply w_if
    | with_reducible apply w_asgLc
    | with_reducible apply w_asg
    | with_reducible apply w_app
    | with_reducible apply w_set
    | with_reducible apply w_par
    | with_reducible apply w_par3
    | with_reducible apply w_tup
    | with_reducible apply w_drop
    | with_reducible apply w_ret
    | with_reducible apply w_for
    | ((with_reducible apply qi_rt); exact rfl)
    | ((with_reducible apply qi_nx); exact rfl)
    | with_reducible exact eNil_ok
    | with_reducible exact y_noPart
    | with_reducible apply y_part
    | with_reducible apply y_sl
    | with_reducible apply y_u
    | with_reducible apply y_ofB
    | with_reducible apply y_if
    | with_reducible apply eNot_ok
    | with_reducible apply eTru_ok
    | with_reducible apply y_rng1
    | with_reducible apply liftVT_ok
    | with_reducible apply liftV_ok
    | with_reducible exact flat_i _
    | with_reducible exact flat_n
    | with_reducible exact flat_b _
    | with_reducible exact flat_s _
    | with_reducible apply x_eLst
    | with_reducible apply x_eTup
    | with_reducible apply eOp_ok
    | with_reducible apply eB_ok
    | with_reducible apply eF_ok
    | with_reducible apply eCons_ok
    | with_reducible apply eCall_ok
    | with_reducible apply x_eIo
    | ((with_reducible apply own_ok); exact rfl)
    | with_reducible exact gAdd_i _ _
    | with_reducible exact gSub_i _ _
    | with_reducible exact gNeg_i _
    | with_reducible exact gCmp_i _ _ _
    | with_reducible exact gInt1_i _
    | with_reducible exact gIsi_ll _
    | with_reducible exact gIsi_ii _
    | with_reducible exact gIsi_ib _
    | with_reducible exact len_map _ _
    | with_reducible exact gMax2_i _ _
    | with_reducible exact gSum_int _
    | with_reducible exact gEq_int _ _
    | with_reducible exact gNe_int _ _
    | with_reducible exact gEq_ints _ _
    | ((with_reducible apply gCmp_oL); assumption)
    | ((with_reducible apply gCmp_oR); assumption)
    | ((with_reducible apply gCmp_oL'); assumption)
    | ((with_reducible apply gCmp_oR'); assumption)
    | ((with_reducible apply gEq_mt) <;> (intro a; first | exact pl_i _ | exact dep_i _ | exact optT_pl _ | exact dep_o _))
    | ((with_reducible apply gNe_mt) <;> (intro a; first | exact pl_i _ | exact dep_i _ | exact optT_pl _ | exact dep_o _))
    | ((with_reducible apply gDix0); assumption)
    | with_reducible exact gDix_rng _ rfl (List.mem_range.mp hc)
    | with_reducible exact optT_flat _
    | with_reducible exact gNe_ints _ _
    | with_reducible exact gInA_int _ _
    | with_reducible exact gNin_int _ _
    | with_reducible exact nil_map
    | with_reducible exact lit_map _ _
    | with_reducible exact enum_int _
    | with_reducible exact enum_rng _ _
    | (simp only [likeAt, Sl.like, frz, mvS, sl, List.getElem?_cons_zero, List.getElem?_cons_succ, List.set_cons_zero, List.set_cons_succ]; first | done | with_reducible exact rfl)
    | (simp only [gTE, gLE, List.length_set, List.length_cons, List.length_nil, Nat.reduceAdd, Nat.reduceLT, ite_true, reduceIte, List.set_cons_zero, List.set_cons_succ]; first | done | with_reducible exact rfl)
    | ((with_reducible apply natlit); exact rfl)
    | (simp only [ini, iniI, List.map_cons, List.map_nil, List.length_cons, List.length_nil, Nat.reduceAdd, Nat.reduceSub, List.replicate, List.cons_append, List.nil_append]; first | done | with_reducible exact rfl)
    | ((with_reducible apply small_of); simp only [List.length_cons, List.length_nil]; decide)
    | ((simp only [List.length_cons, List.length_nil, List.length_set, Nat.reduceAdd, Nat.reduceLT, Nat.reduceLeDiff]); done)
    | ((simp only [List.length_cons, List.length_nil]); decide)
    | with_reducible exact rfl
    | decide))
def inD (n : Nat) (D : Nat → Option Nat) (x : Int) : Bool := (List.range n).any fun i => match D i with
  | some d => decide ((d : Int) = x)
  | none => false
theorem opts_flat (n : Nat) (D : Nat → Option Nat) : ((List.range n).map fun i => optT (D i)).all T.isFlat = true := by
  rw [List.all_map]; exact List.all_eq_true.mpr fun _ _ => optT_flat _
theorem eqV_opt (d : Option Nat) (x : Int) : L2.eqV (optT d).fv (.int x) = match d with
  | some d => decide ((d : Int) = x)
  | none => false := by
  cases d with
  | none => rfl
  | some d =>
    show (((d : Nat) : Int) == x) = decide _
    by_cases h : ((d : Nat) : Int) = x
    · rw [decide_eq_true h]; simpa using h
    · rw [decide_eq_false h]; simpa using h
theorem gInA_opts (n : Nat) (D : Nat → Option Nat) (x : Int) : gInA (.int x) (optsT n D) = some (inD n D x) := by
  have h : gIn (.int x) (optsT n D) = some (inD n D x) := by
    show (if T.isFlat (.int x) && ((List.range n).map fun i => optT (D i)).all T.isFlat then some (L2.inV (T.int x).fv (((List.range n).map fun i => optT (D i)).map T.fv)) else none) = _
    rw [opts_flat]
    show some _ = _
    congr 1
    unfold L2.inV inD
    rw [List.map_map, List.any_map]
    congr 1
    funext i
    exact eqV_opt _ _
  unfold gInA; rw [h]; rfl
theorem idx_some {y : V} : ∀ {l : List V}, (l.any fun v => L2.eqV v y) = true → ∃ j, idxT y l = some j
  | [], h => by cases h
  | v :: l, h => by
    unfold idxT
    by_cases e : L2.eqV v y = true
    · exact ⟨0, if_pos e⟩
    · rw [if_neg e]
      rw [List.any_cons] at h
      have : L2.eqV v y = false := by simpa using e
      rw [this, Bool.false_or] at h
      obtain ⟨j, hj⟩ := idx_some h
      exact ⟨j + 1, by rw [hj]; rfl⟩
theorem gIndex_opts {n : Nat} {D : Nat → Option Nat} {x : Int} (h : inD n D x = true) : ∃ j : Nat, gIndex ((List.range n).map fun i => optT (D i)) [.int x] = some (.int (j : Nat)) := by
  have h2 : ((((List.range n).map fun i => optT (D i)).map T.fv).any fun v => L2.eqV v (.int x)) = true := by
    rw [List.map_map, List.any_map]
    unfold inD at h
    rw [← h]
    congr 1
    funext i
    exact eqV_opt _ _
  obtain ⟨j, hj⟩ := idx_some h2
  refine ⟨j, ?_⟩
  unfold gIndex
  dsimp only
  rw [opts_flat, if_pos (by rfl)]
  show Option.map (fun j => T.int j) (idxT (.int x) (((List.range n).map fun i => optT (D i)).map T.fv) >>= fun a => pure (a : Int)) = _
  rw [hj]; rfl
section
variable {R : List Int} {s : Int}
theorem e_telling (h : R.length ≤ 60) (x : Int) : ∃ t, m_telling_ask [rowT R, .int x] = .ok t ∧ t.isN = !inD R.length (distR R) (x - 1) := by
  by_cases hi : inD R.length (distR R) (x - 1) = true
  · obtain ⟨j, hj⟩ := gIndex_opts hi
    have g1 : gInA (.int (x - 1)) (dsT R) = some true := by rw [gInA_opts, hi]
    refine runP_w (g := g_telling_ask) rfl ?_; apply Exists.intro; apply And.intro; (simp only [ini, iniI, List.map_cons, List.map_nil, List.length_cons, List.length_nil, Nat.reduceAdd, Nat.reduceSub, List.replicate, List.cons_append, List.nil_append]; with_reducible exact rfl); unfold g_telling_ask
    exists e_distances h, g1, hj
    · exact .non
    · rw [hi]; rfl
  · have hi : inD R.length (distR R) (x - 1) = false := by simpa using hi
    have g1 : gInA (.int (x - 1)) (dsT R) = some false := by rw [gInA_opts, hi]
    refine runP_w (g := g_telling_ask) rfl ?_; apply Exists.intro; apply And.intro; (simp only [ini, iniI, List.map_cons, List.map_nil, List.length_cons, List.length_nil, Nat.reduceAdd, Nat.reduceSub, List.replicate, List.cons_append, List.nil_append]; with_reducible exact rfl); unfold g_telling_ask
    exists e_distances h, g1
    · exact .non
    · rw [hi]; rfl
noncomputable def tellT (R : List Int) (h : R.length ≤ 60) (x : Int) : T := Classical.choose (e_telling h x)
theorem tell_eq (h : R.length ≤ 60) (x : Int) : m_telling_ask [rowT R, .int x] = .ok (tellT R h x) := (Classical.choose_spec (e_telling h x)).1
theorem tell_n (h : R.length ≤ 60) (x : Int) : (tellT R h x).isN = !inD R.length (distR R) (x - 1) := (Classical.choose_spec (e_telling h x)).2
def apartL (R : List Int) : List Nat := (List.range 25).filter fun i => inD R.length (distR R) (1 + (i : Int))
theorem e_told_apart (h : Rw R) : m_told_apart [rowT R] = .ok (.lst ((apartL R).map fun (i : Nat) => T.int (2 + (i : Int)))) := by
  have hn := h.hi
  have hb : (0 : Int) ≤ 2 ∧ (2 : Int) ≤ 1000000 := by decide
  have hb2 : (0 : Int) ≤ 26 + 1 ∧ (26 : Int) + 1 ≤ 1000000 := by decide
  have hl : (List.range (26 + 1 - 2 : Int).toNat).length ≤ 1000000 := by decide
  refine runP_is (g := g_told_apart) rfl ?_; apply Exists.intro; apply And.intro; (simp only [ini, iniI, List.map_cons, List.map_nil, List.length_cons, List.length_nil, Nat.reduceAdd, Nat.reduceSub, List.replicate, List.cons_append, List.nil_append]; with_reducible exact rfl); unfold g_told_apart
  exists e_check_row h, tell_eq hn _, hb, hb2, hl
  unfold apartL
  show _ = T.lst (((List.range 25).filter fun (i : Nat) => !(tellT R hn (2 + (i : Int))).isN).map _)
  congr 2
  refine List.filter_congr fun i _ => ?_
  rw [tell_n, Bool.not_not]
  congr 1; omega
theorem cnt_split {α : Type} {a b : α → Bool} (hab : ∀ i, b i = true → a i = true) : ∀ l : List α, (l.filter a).length = (l.filter b).length + (l.filter fun i => a i && !b i).length
  | [] => rfl
  | x :: l => by
    have ih := cnt_split hab l
    cases ha : a x with
    | false =>
      have hb : b x = false := by cases hb : b x with
        | false => rfl
        | true => rw [hab x hb] at ha; cases ha
      rw [List.filter_cons_of_neg (by rw [ha]; exact Bool.false_ne_true), List.filter_cons_of_neg (by rw [hb]; exact Bool.false_ne_true), List.filter_cons_of_neg (by rw [ha]; exact Bool.false_ne_true), ih]
    | true =>
      cases hb : b x with
      | true =>
        rw [List.filter_cons_of_pos ha, List.filter_cons_of_pos hb, List.filter_cons_of_neg (by rw [ha, hb]; exact Bool.false_ne_true), List.length_cons, List.length_cons, ih]; omega
      | false =>
        rw [List.filter_cons_of_pos ha, List.filter_cons_of_neg (by rw [hb]; exact Bool.false_ne_true), List.filter_cons_of_pos (by rw [ha, hb]; rfl), List.length_cons, List.length_cons, ih]; omega
theorem miss_ne (R : List Int) (x : Int) : decide (missN R (x + 1) = missN R x) = !inD R.length (distR R) x := by
  have hs := cnt_split (a := missP R x) (b := missP R (x + 1)) (fun i h => by
    unfold missP at h ⊢
    cases e : distR R i with
    | none => rfl
    | some d =>
      rw [e] at h
      have := of_decide_eq_true h
      exact decide_eq_true (by omega)) (List.range R.length)
  have e : (List.range R.length).filter (fun i => missP R x i && !missP R (x + 1) i) = (List.range R.length).filter fun i => match distR R i with
      | some d => decide ((d : Int) = x)
      | none => false := by
    congr 1; funext i
    unfold missP
    cases distR R i with
    | none => rfl
    | some d =>
      show (decide (x ≤ (d : Int)) && !decide (x + 1 ≤ (d : Int))) = decide ((d : Int) = x)
      by_cases h1 : (d : Int) = x
      · rw [decide_eq_true (by omega : x ≤ (d : Int)), decide_eq_false (by omega : ¬ x + 1 ≤ (d : Int)), decide_eq_true h1]; rfl
      · rw [decide_eq_false h1]
        by_cases h2 : x ≤ (d : Int)
        · rw [decide_eq_true (by omega : x + 1 ≤ (d : Int)), Bool.not_true, Bool.and_false]
        · rw [decide_eq_false h2]; rfl
  rw [e] at hs
  have hm : ∀ y, missN R y = (((List.range R.length).filter (missP R y)).length : Nat) := fun y => rfl
  rw [hm, hm]
  cases hi : inD R.length (distR R) x with
  | true =>
    refine decide_eq_false fun z => ?_
    unfold inD at hi
    obtain ⟨i, h1, h2⟩ := List.any_eq_true.mp hi
    have := List.length_pos_of_mem (List.mem_filter (p := fun i => match distR R i with
      | some d => decide ((d : Int) = x)
      | none => false).mpr ⟨h1, h2⟩)
    omega
  | false =>
    refine decide_eq_true ?_
    unfold inD at hi
    have : ((List.range R.length).filter fun i => match distR R i with
      | some d => decide ((d : Int) = x)
      | none => false) = [] := filt_nil fun i hm => by
      have := List.any_eq_false.mp hi i hm
      simpa using this
    rw [this] at hs
    rw [List.length_nil] at hs
    omega
theorem mark_miss {S : List Int} (hS : Sz S) {k : Nat} (hk : k < S.length) (i : Nat) : missP R (S.getD k 0) i = !hitL (logR R S) k i := by
  unfold missP hitL
  cases ed : distR R i with
  | none =>
    have : logR R S i = none := by unfold logR; rw [ed]; rfl
    rw [this]; rfl
  | some d =>
    cases el : logR R S i with
    | none =>
      have := mark_none.mp el d ed k hk
      exact decide_eq_true this
    | some m =>
      obtain ⟨j, ej, hm, h1, h2⟩ := mark_some el
      rw [ed] at ej; cases ej
      show decide (S.getD k 0 ≤ (d : Int)) = !decide (m ≤ k)
      by_cases hmk : m ≤ k
      · have : S.getD m 0 ≤ S.getD k 0 := by
          by_cases z : m = k
          · rw [z]; exact Int.le_refl _
          · have := up_get hS.up (i := m) (j := k) (by omega) hk; omega
        rw [decide_eq_false (by omega), decide_eq_true hmk]; rfl
      · rw [decide_eq_true (h2 k (by omega)), decide_eq_false hmk]; rfl
theorem miss_same {S : List Int} (hS : Sz S) {k : Nat} (hk : k < S.length) : missN (otherR R S) (S.getD k 0) = missN R (S.getD k 0) := by
  unfold missN
  rw [other_len]
  congr 2
  unfold A
  refine List.filter_congr fun i hi => ?_
  rw [mark_miss hS hk, mark_miss hS hk]
  unfold hitL
  rw [other_log hS (List.mem_range.mp hi)]
theorem hits_are {S : List Int} (hS : Sz S) {k : Nat} (hk : k < S.length) : (List.range R.length).filter (hitL (logR R S) k) = A R.length fun i => !missP R (S.getD k 0) i := by
  unfold A
  congr 1; funext i
  rw [mark_miss hS hk, Bool.not_not]
end
end K27

set_option Elab.async false
set_option linter.all false
set_option maxRecDepth 100000
set_option maxHeartbeats 4000000
namespace K27
open PySem TL L2
set_option hygiene false in
local macro_rules
  | `(tactic| exists $ts,*) => `(tactic| repeat' (first
    $[| with_reducible exact $ts]*
    | ((with_reducible intro hc); first | (cases hc; done) | skip)
    | with_reducible exact c_ok
    | ((with_reducible apply v_ok); exact rfl)
    | with_reducible exact nil_ok
    | with_reducible exact x_noPart
    | with_reducible apply liftS_ok
    | with_reducible apply cons_ok
    | with_reducible apply op_ok
    | with_reducible apply b_ok
    | with_reducible apply f_ok
    | with_reducible apply u_ok
    | with_reducible apply call_ok
    | with_reducible apply x_and
    | with_reducible apply x_or
    | with_reducible apply x_andV
    | with_reducible apply x_orV
    | with_reducible apply x_notV
    | with_reducible apply x_not
    | with_reducible apply x_if
    | with_reducible apply x_ch
    | with_reducible apply x_isN
    | with_reducible apply x_notN
    | with_reducible apply x_lst
    | with_reducible apply x_tup
    | with_reducible apply x_itL
    | with_reducible apply x_itT
    | with_reducible apply x_enum
    | with_reducible apply x_rng1
    | with_reducible apply x_rng2
    | ((with_reducible apply y_lc0); exact rfl; (with_reducible exact rfl))
    | with_reducible apply y_lcA
    | with_reducible apply y_lc
    | ((with_reducible apply lcA_in); (intro a; exact rfl))
    | ((with_reducible apply lcS_in); (intro a; exact rfl))
    | with_reducible apply x_sl
    | with_reducible apply x_part
    | with_reducible apply x_truB
    | with_reducible apply x_ofB
    | with_reducible apply x_lm
    | with_reducible apply x_lr1
    | with_reducible apply x_lr2
    | with_reducible apply w_seq
    | with_reducible apply qs_frz
    | with_reducible apply qs_nx
    | with_reducible apply qs_rt
    | with_reducible apply qs_bk
    | with_reducible apply qs_ct
    | with_reducible apply ql_nx
    | with_reducible apply ql_ct
    | with_reducible apply ql_bk
    | with_reducible apply ql_rt
    | with_reducible apply qp_rt
    | with_reducible apply qp_nx
    | with_reducible apply w_nx
    | with_reducible apply w_bk
    | with_reducible apply w_ct
    | with_reducible apply w_if
    | with_reducible apply w_asgLc
    | with_reducible apply w_asg
    | with_reducible apply w_app
    | with_reducible apply w_set
    | with_reducible apply w_par
    | with_reducible apply w_par3
    | with_reducible apply w_tup
    | with_reducible apply w_drop
    | with_reducible apply w_ret
    | with_reducible apply w_for
    | ((with_reducible apply qi_rt); exact rfl)
    | ((with_reducible apply qi_nx); exact rfl)
    | with_reducible exact eNil_ok
    | with_reducible exact y_noPart
    | with_reducible apply y_part
    | with_reducible apply y_sl
    | with_reducible apply y_u
    | with_reducible apply y_ofB
    | with_reducible apply y_if
    | with_reducible apply eNot_ok
    | with_reducible apply eTru_ok
    | with_reducible apply y_rng1
    | with_reducible apply liftVT_ok
    | with_reducible apply liftV_ok
    | with_reducible exact flat_i _
    | with_reducible exact flat_n
    | with_reducible exact flat_b _
    | with_reducible exact flat_s _
    | with_reducible apply x_eLst
    | with_reducible apply x_eTup
    | with_reducible apply eOp_ok
    | with_reducible apply eB_ok
    | with_reducible apply eF_ok
    | with_reducible apply eCons_ok
    | with_reducible apply eCall_ok
    | with_reducible apply x_eIo
    | ((with_reducible apply own_ok); exact rfl)
    | with_reducible exact gAdd_i _ _
    | with_reducible exact gSub_i _ _
    | with_reducible exact gNeg_i _
    | with_reducible exact gCmp_i _ _ _
    | with_reducible exact gInt1_i _
    | with_reducible exact gIsi_ll _
    | with_reducible exact gIsi_ii _
    | with_reducible exact gIsi_ib _
    | with_reducible exact len_map _ _
    | with_reducible exact gMax2_i _ _
    | with_reducible exact gSum_int _
    | with_reducible exact gEq_int _ _
    | with_reducible exact gNe_int _ _
    | with_reducible exact gEq_ints _ _
    | ((with_reducible apply gCmp_oL); assumption)
    | ((with_reducible apply gCmp_oR); assumption)
    | ((with_reducible apply gCmp_oL'); assumption)
    | ((with_reducible apply gCmp_oR'); assumption)
    | ((with_reducible apply gEq_mt) <;> (intro a; first | exact pl_i _ | exact dep_i _ | exact optT_pl _ | exact dep_o _))
    | ((with_reducible apply gNe_mt) <;> (intro a; first | exact pl_i _ | exact dep_i _ | exact optT_pl _ | exact dep_o _))
    | ((with_reducible apply gDix0); assumption)
    | with_reducible exact gDix_rng _ rfl (List.mem_range.mp hc)
    | with_reducible exact optT_flat _
    | with_reducible exact gNe_ints _ _
    | with_reducible exact gInA_int _ _
    | with_reducible exact gNin_int _ _
    | with_reducible exact nil_map
    | with_reducible exact lit_map _ _
    | with_reducible exact enum_int _
    | with_reducible exact enum_rng _ _
    | (simp only [likeAt, Sl.like, frz, mvS, sl, List.getElem?_cons_zero, List.getElem?_cons_succ, List.set_cons_zero, List.set_cons_succ]; first | done | with_reducible exact rfl)
    | (simp only [gTE, gLE, List.length_set, List.length_cons, List.length_nil, Nat.reduceAdd, Nat.reduceLT, ite_true, reduceIte, List.set_cons_zero, List.set_cons_succ]; first | done | with_reducible exact rfl)
    | ((with_reducible apply natlit); exact rfl)
    | (simp only [ini, iniI, List.map_cons, List.map_nil, List.length_cons, List.length_nil, Nat.reduceAdd, Nat.reduceSub, List.replicate, List.cons_append, List.nil_append]; first | done | with_reducible exact rfl)
    | ((with_reducible apply small_of); simp only [List.length_cons, List.length_nil]; decide)
    | ((simp only [List.length_cons, List.length_nil, List.length_set, Nat.reduceAdd, Nat.reduceLT, Nat.reduceLeDiff]); done)
    | ((simp only [List.length_cons, List.length_nil]); decide)
    | with_reducible exact rfl
    | decide))
theorem sz_sort {L : List Int} (h1 : 1 ≤ L.length) (h2 : L.length ≤ 26) (hn : L.Nodup) (he : ∀ x ∈ L, 1 ≤ x ∧ x ≤ 26) : Sz (sortL L) := by
  have p := sortL_perm L
  refine ⟨by rw [p.length_eq]; exact h1, by rw [p.length_eq]; exact h2, fun x hx => he x (p.mem_iff.mp hx), ?_⟩
  have hs := sortL_sorted L
  have hnd : (sortL L).Pairwise (· ≠ ·) := List.nodup_iff_pairwise_ne.mp (p.nodup_iff.mpr hn)
  exact (hs.and hnd).imp fun ⟨a, b⟩ => by omega
theorem repT : gRepN (.lst [.int 1]) (.int 26) = some (rowT plain) := rfl
theorem curve_at {R : List Int} {k : Int} (h1 : 0 ≤ k) (h2 : k < 26) : gDix (rowT (curveR R)) (.int k) = some (.int (missN R (k + 1))) := by
  have := gDix_at (l := curveR R) (k := k) h1 (by unfold curveR; rw [List.length_map, List.length_range]; exact h2)
  rw [this]
  congr 2
  unfold curveR
  rw [List.getD_eq_getElem?_getD, List.getElem?_map, List.getElem?_range (by omega)]
  show missN R (1 + ((k.toNat : Nat) : Int)) = _
  congr 1; omega
theorem law_true : ∀ ns : List Int, ns.length ≤ 63 → (∀ z ∈ ns, Builtin.Int.intBits z ≤ 1048576) → m_law [.scr (ns.map T.int)] = .ok (.bl true) := fun ns _ _ => by
  obtain ⟨g0, eg, hg0⟩ := e_generator ns 0 (by omega)
  have eg : m__law_generator [.scr (ns.map T.int), .int 0] = .ok g0 := eg
  obtain ⟨t1, g1, e1, ⟨R, hR, rfl⟩, hg1⟩ := e_drawn_row (M := 40) hg0 (by omega) (by decide) (by decide)
  obtain ⟨O, g2, e2, hp, hg2⟩ := e_order (L := (List.range 11).map fun (i : Nat) => 1 + (i : Int)) hg1 (by omega) (by decide)
  obtain ⟨r, g3, e3, r0, r1, hg3⟩ := e_random (B := 4) hg2 (by omega) (by decide) (by decide)
  have hOl : O.length = 11 := by rw [hp.length_eq]; rfl
  have hLn : ((List.range 11).map fun (i : Nat) => 1 + (i : Int)).Nodup := by decide
  have hOn : O.Nodup := hp.nodup_iff.mpr hLn
  have hOe : ∀ x ∈ O, 1 ≤ x ∧ x ≤ 26 := fun x hx => by
    obtain ⟨i, hi, rfl⟩ := List.mem_map.mp (hp.mem_iff.mp hx)
    have := List.mem_range.mp hi
    omega
  generalize hS : sortL (O.take (1 + r).toNat) = S
  have hSz : Sz S := by
    rw [← hS]
    refine sz_sort ?_ ?_ (hOn.sublist (List.take_sublist _ _)) fun x hx => hOe x (List.mem_of_mem_take hx)
    · rw [List.length_take]; omega
    · rw [List.length_take]; omega
  have e2 : m__law_drawn_order g1 [.lst ((List.range (12 - 1 : Int).toNat).map fun (i : Nat) => T.int (1 + (i : Int)))] = .ok (rowT O, g2) := e2
  have hcut : T.lst (cutT (O.map T.int) none (some (1 + r))) = rowT (O.take (1 + r).toNat) := by rw [cut_to (by omega) (by omega)]
  have hsort : gSortedA [rowT (O.take (1 + r).toNat)] = some (rowT S) := by rw [gSorted_int, hS]
  obtain ⟨K, hK, hKK⟩ := repr_row (R := R) (by have := hR.hi; omega) hR.el
  have hR' := other_rw hR hSz
  have hlen : gLenA [rowT (setL R)] = some (.int (cntR R R.length : Nat)) := by rw [len_int, setL_cnt]
  have hlen' : gLenA [rowT (setL (otherR R S))] = some (.int (cntR (otherR R S) (otherR R S).length : Nat)) := by rw [len_int, setL_cnt]
  have hlog : m_log_of [rowT R, rowT S] = .ok (optsT R.length (logR R S)) := e_log_of hR hSz
  have hro := e_row_or_ask hR hSz
  have hhas : m_has_log [rowT (otherR R S), rowT S, optsT R.length (logR R S)] = .ok (.bl true) := by
    have h0 := e_has_log (L := logR R S) hR' hSz (by rw [other_len]; exact log_lg hR) fun i hi => other_log hSz (by rw [other_len] at hi; exact hi)
    rw [other_len] at h0; exact h0
  obtain ⟨tf, hfew, k, rfl, hk⟩ := e_fewest hR hSz
  have c0 : gNe (.str "row") (.str "row") = some false := by decide +kernel
  have c1 : gNotB (.bl true) (.bl true) = some false := rfl
  have c2 : gCmp (fun i j => decide (j < i)) (.int (cntR (otherR R S) (otherR R S).length : Nat)) (.int (cntR R R.length : Nat)) = some false := gCmp_no (decide_eq_false (by have := other_cnt (R := R) hSz; omega))
  have c3 : gCmp (fun i j => decide (j < i)) (.int (k : Nat)) (.int (cntR R R.length : Nat)) = some false := gCmp_no (decide_eq_false (by omega))
  have x0 : gDix (.lst [rowT (curveR R), rowT (curveR (otherR R S))]) (.int 0) = some (rowT (curveR R)) := rfl
  have x1 : gDix (.lst [rowT (curveR R), rowT (curveR (otherR R S))]) (.int 1) = some (rowT (curveR (otherR R S))) := rfl
  have k1 : ∀ a ∈ S, gDix (rowT (curveR R)) (.int (a - 1)) = some (.int (missN R a)) := fun a ha => by
    have := hSz.el a ha
    rw [curve_at (by omega) (by omega), Int.sub_add_cancel]
  have k2 : ∀ a ∈ S, gDix (rowT (curveR (otherR R S))) (.int (a - 1)) = some (.int (missN (otherR R S) a)) := fun a ha => by
    have := hSz.el a ha
    rw [curve_at (by omega) (by omega), Int.sub_add_cancel]
  have hSl : S.length ≤ 1000000 := by have := hSz.hi; omega
  refine runP_is (g := g_law) rfl ?_; apply Exists.intro; apply And.intro; (simp only [ini, iniI, List.map_cons, List.map_nil, List.length_cons, List.length_nil, Nat.reduceAdd, Nat.reduceSub, List.replicate, List.cons_append, List.nil_append]; with_reducible exact rfl); unfold g_law
  exists eg, e1, e2, e3, hcut, hsort, hK, hlog, e_things hR, hlen, repT, hro, c0, hhas, c1, e_things hR', hlen', c2, hfew, c3, e_unused_curve hR, e_unused_curve hR', x0, x1, k1 _ (by assumption), k2 _ (by assumption), hSl
  · have hf : S.filter (fun a => !decide (missN R a = missN (otherR R S) a)) = [] := filt_nil fun a ha => by
      obtain ⟨k, hk, e⟩ := List.getElem_of_mem ha
      have e : S.getD k 0 = a := by rw [List.getD_eq_getElem?_getD, List.getElem?_eq_getElem hk, e]; rfl
      have := miss_same (R := R) hSz hk
      rw [e] at this
      rw [this, decide_eq_true rfl]; rfl
    rw [hf] at hc; cases hc
  refine ⟨fun i ρ => ∃ s8 s11 s12 s13 s14 s15 s16 s17, ρ = [.gd .old (.scr (ns.map T.int)), .fz g3, .fz (rowT R), .fz (rowT S), .fz (.str K), .fz (optsT R.length (logR R S)), .fz (.int (cntR R R.length : Nat)), .fz (rowT plain), s8, .fz (rowT (otherR R S)),
    .fz (.lst [rowT (curveR R), rowT (curveR (otherR R S))]), s11, s12, s13, s14, s15, s16, s17, .un, .un], ⟨_, _, _, _, _, _, _, _, rfl⟩, ?_, ?_⟩
  · rintro i t ρ ht ⟨s8, s11, s12, s13, s14, s15, s16, s17, rfl⟩
    obtain ⟨hi, rfl⟩ := List.getElem?_eq_some_iff.mp ht
    rw [List.length_map, List.length_range] at hi
    rw [List.getElem_map, List.getElem_range]
    obtain ⟨p1, p2⟩ := hSz.el _ (getD_mem hi)
    have hh : m_log_hits [rowT S, optsT R.length (logR R S), .int (i : Nat)] = .ok (natsT (A R.length fun j => !missP R (S.getD i 0) j)) := by
      have := e_log_hits hSz (log_lg (S := S) hR) hi
      rw [hits_are hSz hi] at this; exact this
    have hms : T.lst (((List.range R.length).filter fun a => !decide (a ∈ A R.length fun j => !missP R (S.getD i 0) j)).map fun (a : Nat) => T.int (a : Int)) = natsT (A R.length (missP R (S.getD i 0))) := by
      have e : (List.range R.length).filter (fun a => !decide (a ∈ A R.length fun j => !missP R (S.getD i 0) j)) = A R.length (missP R (S.getD i 0)) := by
        unfold A
        refine List.filter_congr fun a ha => ?_
        cases hm : missP R (S.getD i 0) a with
        | true => rw [decide_eq_false fun z => by have := (List.mem_filter.mp z).2; rw [hm] at this; cases this]; rfl
        | false => rw [decide_eq_true (List.mem_filter.mpr ⟨ha, by rw [hm]; rfl⟩)]; rfl
      rw [e]
    have hlr : (List.range R.length).length ≤ 1000000 := by have := hR.hi; rw [List.length_range]; omega
    obtain ⟨q1, q2⟩ := ends_at (R := R) p1 p2
    have w0 : gNe (.str "places") (.str "places") = some false := by decide +kernel
    have j1 : gCmp (fun i j => decide (i ≤ j)) (.int (leastP R fun j => !missP R (S.getD i 0) j)) (.int (S.getD i 0)) = some true := gCmp_yes (decide_eq_true q1)
    have j2 : gCmp (fun i j => decide (i ≤ j)) (.int (S.getD i 0)) (.int (greatP R (missP R (S.getD i 0)))) = some true := gCmp_yes (decide_eq_true q2)
    have nats_eq : ∀ l : List Nat, gNe (natsT l) (natsT l) = some false := fun l => by
      have e : natsT l = .lst ((l.map fun (i : Nat) => (i : Int)).map T.int) := by unfold natsT; rw [List.map_map]; rfl
      rw [e, gNe_ints, decide_eq_true rfl]; rfl
    refine ⟨_, rfl, ?_⟩
    have hA1 : (0 : Int) ≤ (leastP R fun j => !missP R (S.getD i 0) j) ∧ (leastP R fun j => !missP R (S.getD i 0) j) ≤ 1000000 := by
      have := (least_le.mp (Int.le_refl (leastP R fun j => !missP R (S.getD i 0) j))).1
      omega
    have hA2 : (0 : Int) ≤ greatP R (missP R (S.getD i 0)) + 1 ∧ greatP R (missP R (S.getD i 0)) + 1 ≤ 1000000 := by
      have := (le_great.mp (Int.le_refl (greatP R (missP R (S.getD i 0))))).1
      omega
    have hA0 : T.lst (((List.range R.length).filter (missP R (S.getD i 0))).map fun (a : Nat) => T.int (a : Int)) = natsT (A R.length (missP R (S.getD i 0))) := rfl
    have hx0 : gDix (.tup [.int (leastP R fun j => !missP R (S.getD i 0) j), .int (greatP R (missP R (S.getD i 0)))]) (.int 0) = some (.int (leastP R fun j => !missP R (S.getD i 0) j)) := rfl
    have hx1 : gDix (.tup [.int (leastP R fun j => !missP R (S.getD i 0) j), .int (greatP R (missP R (S.getD i 0)))]) (.int 1) = some (.int (greatP R (missP R (S.getD i 0)))) := rfl
    exists hh, gNin_nats _ _, hms, hlr, e_places_or_asks hR p1 p2, e_unused_hits hR p1 p2, nats_eq _, w0, hx0, hx1, j1, j2, e_places_seen hR p1 p2, hA1, hA2, gNe_selfI (fun (j : Nat) => (leastP R fun j => !missP R (S.getD i 0) j) + (j : Int)) _, e_pinned_fetches hR p1 p2, e_blames hR p1 p2, word_ne _, hA0, (show R.length ≤ 1000000 by have := hR.hi; omega)
    apply Exists.intro; apply Exists.intro; apply Exists.intro
    apply Exists.intro; apply Exists.intro; apply Exists.intro
    apply Exists.intro; apply Exists.intro
    rfl
  · rintro ρ ⟨s8, s11, s12, s13, s14, s15, s16, s17, rfl⟩
    have b1 : (0 : Int) ≤ 2 ∧ (2 : Int) ≤ 1000000 := by decide
    have b2 : (0 : Int) ≤ 27 ∧ (27 : Int) ≤ 1000000 := by decide
    have bl : (List.range (27 - 2 : Int).toNat).length ≤ 1000000 := by decide
    have y1 : ∀ i ∈ List.range (27 - 2 : Int).toNat, gDix (rowT (curveR R)) (.int (2 + (i : Int) - 1)) = some (.int (missN R (2 + (i : Int)))) := fun i hi => by
      have hi : i < 25 := List.mem_range.mp hi
      rw [curve_at (by omega) (by omega), Int.sub_add_cancel]
    have y2 : ∀ i ∈ List.range (27 - 2 : Int).toNat, gDix (rowT (curveR R)) (.int (2 + (i : Int) - 2)) = some (.int (missN R (1 + (i : Int)))) := fun i hi => by
      have hi : i < 25 := List.mem_range.mp hi
      rw [curve_at (by omega) (by omega)]
      congr 3; omega
    have yf : T.lst (((List.range (27 - 2 : Int).toNat).filter fun (i : Nat) => !decide (missN R (2 + (i : Int)) = missN R (1 + (i : Int)))).map fun (i : Nat) => T.int (2 + (i : Int))) = .lst ((apartL R).map fun (i : Nat) => T.int (2 + (i : Int))) := by
      unfold apartL
      show T.lst (((List.range 25).filter _).map _) = _
      congr 2
      refine List.filter_congr fun i _ => ?_
      have := miss_ne R (1 + (i : Int))
      have e : (1 + (i : Int)) + 1 = 2 + (i : Int) := by omega
      rw [e] at this
      rw [this, Bool.not_not]
    exists e_told_apart hR, x0, hK, hKK, b1, b2, bl, y1 _ (by assumption), y2 _ (by assumption), yf, gEq_selfI (fun (i : Nat) => 2 + (i : Int)) (apartL R)
    exact rfl
end K27

open PySem PySem.W PyProof.Rows TL K27 in
set_option maxHeartbeats 0 in
theorem PySem.Challenge.cw_keptathand_k27_whole_logs_and_guesses_holds : PySem.Challenge.rw_keptathand_k27_whole_logs_and_guesses.Holds := by
  w_on; o_law; k_head; (case hw => w_witness2)
  k_fill
  refine TL.walk_ofG (l := PySem.Challenge.rw_keptathand_k27_whole_logs_and_guesses) (n := 63) (k := 9) (x := "script") (CX := fun w => L2.CX PP w) (sp := fun w => spTrue _) rfl (by decide) rfl ⟨rfl, by decide, by decide⟩ (fun w h Y => PySem.W.kIn_of Y) ?F (fun _ _ a ns hl hb ho hs => ⟨a, ns, rfl, hl, hb, ho, hs, fun _ => rfl⟩) (fun _ _ _ _ _ h => by obtain ⟨_, _, _, _, _, _, _, _, _, _, _, _, z⟩ := h; exact z)
  case F =>
    intro w mg fa h KX G hmg
    refine' TL.withDef (x := "_law_hash") (st := topS 66) (ps := ["seed", "index"]) KX G ?a66 ?l66 ?c66 ?k66 (fun _ _ _ _ _ _ us hl => match us, hl with | [_, _], _ => rfl) ?z66
    (case a66 => k_is); (case l66 => k_is); (case c66 => k_is); (case k66 => k_is)
    intro d__law_hash
    refine' TL.withDef (x := "_law_random") (st := topS 67) (ps := ["generator", "bound"]) KX G ?a67 ?l67 ?c67 ?k67 (fun _ _ _ _ _ _ us hl => match us, hl with | [_, _], _ => rfl) ?z67
    (case a67 => k_is); (case l67 => k_is); (case c67 => k_is); (case k67 => k_is)
    intro d__law_random
    refine' TL.withDef (x := "_law_drawn_order") (st := topS 71) (ps := ["generator", "told_ones"]) KX G ?a71 ?l71 ?c71 ?k71 (fun _ _ _ _ _ _ us hl => match us, hl with | [_, _], _ => rfl) ?z71
    (case a71 => k_is); (case l71 => k_is); (case c71 => k_is); (case k71 => k_is)
    intro d__law_drawn_order
    refine' TL.withDef (x := "_law_pick") (st := topS 70) (ps := ["generator", "told_ones"]) KX G ?a70 ?l70 ?c70 ?k70 (fun _ _ _ _ _ _ us hl => match us, hl with | [_, _], _ => rfl) ?z70
    (case a70 => k_is); (case l70 => k_is); (case c70 => k_is); (case k70 => k_is)
    intro d__law_pick
    refine' TL.withDef (x := "_law_drawn_row") (st := topS 72) (ps := ["generator", "most"]) KX G ?a72 ?l72 ?c72 ?k72 (fun _ _ _ _ _ _ us hl => match us, hl with | [_, _], _ => rfl) ?z72
    (case a72 => k_is); (case l72 => k_is); (case c72 => k_is); (case k72 => k_is)
    intro d__law_drawn_row
    refine' TL.withDef (x := "_law_cell") (st := topS 68) (ps := ["script", "index"]) KX G ?a68 ?l68 ?c68 ?k68 (fun _ _ _ _ _ _ us hl => match us, hl with | [_, _], _ => rfl) ?z68
    (case a68 => k_is); (case l68 => k_is); (case c68 => k_is); (case k68 => k_is)
    intro d__law_cell
    refine' TL.withDef (x := "_law_generator") (st := topS 69) (ps := ["script", "index"]) KX G ?a69 ?l69 ?c69 ?k69 (fun _ _ _ _ _ _ us hl => match us, hl with | [_, _], _ => rfl) ?z69
    (case a69 => k_is); (case l69 => k_is); (case c69 => k_is); (case k69 => k_is)
    intro d__law_generator
    refine' TL.withDef (x := "is_whole") (st := topS 12) (ps := ["value"]) KX G ?a12 ?l12 ?c12 ?k12 (fun _ _ _ _ _ _ us hl => match us, hl with | [_], _ => rfl) ?z12
    (case a12 => k_is); (case l12 => k_is); (case c12 => k_is); (case k12 => k_is)
    intro d_is_whole
    refine' TL.withDef (x := "is_count") (st := topS 13) (ps := ["value"]) KX G ?a13 ?l13 ?c13 ?k13 (fun _ _ _ _ _ _ us hl => match us, hl with | [_], _ => rfl) ?z13
    (case a13 => k_is); (case l13 => k_is); (case c13 => k_is); (case k13 => k_is)
    intro d_is_count
    refine' TL.withDef (x := "is_below") (st := topS 14) (ps := ["value", "bound"]) KX G ?a14 ?l14 ?c14 ?k14 (fun _ _ _ _ _ _ us hl => match us, hl with | [_, _], _ => rfl) ?z14
    (case a14 => k_is); (case l14 => k_is); (case c14 => k_is); (case k14 => k_is)
    intro d_is_below
    refine' TL.withDef (x := "is_thing") (st := topS 15) (ps := ["value"]) KX G ?a15 ?l15 ?c15 ?k15 (fun _ _ _ _ _ _ us hl => match us, hl with | [_], _ => rfl) ?z15
    (case a15 => k_is); (case l15 => k_is); (case c15 => k_is); (case k15 => k_is)
    intro d_is_thing
    refine' TL.withDef (x := "is_row") (st := topS 16) (ps := ["value"]) KX G ?a16 ?l16 ?c16 ?k16 (fun _ _ _ _ _ _ us hl => match us, hl with | [_], _ => rfl) ?z16
    (case a16 => k_is); (case l16 => k_is); (case c16 => k_is); (case k16 => k_is)
    intro d_is_row
    refine' TL.withDef (x := "check_row") (st := topS 19) (ps := ["row"]) KX G ?a19 ?l19 ?c19 ?k19 (fun _ _ _ _ _ _ us hl => match us, hl with | [_], _ => rfl) ?z19
    (case a19 => k_is); (case l19 => k_is); (case c19 => k_is); (case k19 => k_is)
    intro d_check_row
    refine' TL.withDef (x := "is_places") (st := topS 17) (ps := ["value"]) KX G ?a17 ?l17 ?c17 ?k17 (fun _ _ _ _ _ _ us hl => match us, hl with | [_], _ => rfl) ?z17
    (case a17 => k_is); (case l17 => k_is); (case c17 => k_is); (case k17 => k_is)
    intro d_is_places
    refine' TL.withDef (x := "check_shelves") (st := topS 62) (ps := ["shelves", "each"]) KX G ?a62 ?l62 ?c62 ?k62 (fun _ _ _ _ _ _ us hl => match us, hl with | [_, _], _ => rfl) ?z62
    (case a62 => k_is); (case l62 => k_is); (case c62 => k_is); (case k62 => k_is)
    intro d_check_shelves
    refine' TL.withDef (x := "distances_of") (st := topS 25) (ps := ["row"]) KX G ?a25 ?l25 ?c25 ?k25 (fun _ _ _ _ _ _ us hl => match us, hl with | [_], _ => rfl) ?z25
    (case a25 => k_is); (case l25 => k_is); (case c25 => k_is); (case k25 => k_is)
    intro d_distances_of
    refine' TL.withDef (x := "shelf_hits") (st := topS 63) (ps := ["row", "shelves", "each"]) KX G ?a63 ?l63 ?c63 ?k63 (fun _ _ _ _ _ _ us hl => match us, hl with | [_, _, _], _ => rfl) ?z63
    (case a63 => k_is); (case l63 => k_is); (case c63 => k_is); (case k63 => k_is)
    intro d_shelf_hits
    refine' TL.withDef (x := "blames") (st := topS 64) (ps := ["row", "shelves", "each"]) KX G ?a64 ?l64 ?c64 ?k64 (fun _ _ _ _ _ _ us hl => match us, hl with | [_, _, _], _ => rfl) ?z64
    (case a64 => k_is); (case l64 => k_is); (case c64 => k_is); (case k64 => k_is)
    intro d_blames
    refine' TL.withDef (x := "is_log") (st := topS 45) (ps := ["sizes", "value"]) KX G ?a45 ?l45 ?c45 ?k45 (fun _ _ _ _ _ _ us hl => match us, hl with | [_, _], _ => rfl) ?z45
    (case a45 => k_is); (case l45 => k_is); (case c45 => k_is); (case k45 => k_is)
    intro d_is_log
    refine' TL.withDef (x := "check_log") (st := topS 46) (ps := ["sizes", "log"]) KX G ?a46 ?l46 ?c46 ?k46 (fun _ _ _ _ _ _ us hl => match us, hl with | [_, _], _ => rfl) ?z46
    (case a46 => k_is); (case l46 => k_is); (case c46 => k_is); (case k46 => k_is)
    intro d_check_log
    refine' TL.withDef (x := "are_sizes") (st := topS 43) (ps := ["value"]) KX G ?a43 ?l43 ?c43 ?k43 (fun _ _ _ _ _ _ us hl => match us, hl with | [_], _ => rfl) ?z43
    (case a43 => k_is); (case l43 => k_is); (case c43 => k_is); (case k43 => k_is)
    intro d_are_sizes
    refine' TL.withDef (x := "check_sizes") (st := topS 44) (ps := ["sizes"]) KX G ?a44 ?l44 ?c44 ?k44 (fun _ _ _ _ _ _ us hl => match us, hl with | [_], _ => rfl) ?z44
    (case a44 => k_is); (case l44 => k_is); (case c44 => k_is); (case k44 => k_is)
    intro d_check_sizes
    refine' TL.withDef (x := "least_far") (st := topS 49) (ps := ["sizes", "mark"]) KX G ?a49 ?l49 ?c49 ?k49 (fun _ _ _ _ _ _ us hl => match us, hl with | [_, _], _ => rfl) ?z49
    (case a49 => k_is); (case l49 => k_is); (case c49 => k_is); (case k49 => k_is)
    intro d_least_far
    refine' TL.withDef (x := "told_distances") (st := topS 50) (ps := ["sizes", "log", "most"]) KX G ?a50 ?l50 ?c50 ?k50 (fun _ _ _ _ _ _ us hl => match us, hl with | [_, _, _], _ => rfl) ?z50
    (case a50 => k_is); (case l50 => k_is); (case c50 => k_is); (case k50 => k_is)
    intro d_told_distances
    refine' TL.withDef (x := "fewest_things") (st := topS 54) (ps := ["sizes", "log"]) KX G ?a54 ?l54 ?c54 ?k54 (fun _ _ _ _ _ _ us hl => match us, hl with | [_, _], _ => rfl) ?z54
    (case a54 => k_is); (case l54 => k_is); (case c54 => k_is); (case k54 => k_is)
    intro d_fewest_things
    refine' TL.withDef (x := "mark_of") (st := topS 47) (ps := ["sizes", "far"]) KX G ?a47 ?l47 ?c47 ?k47 (fun _ _ _ _ _ _ us hl => match us, hl with | [_, _], _ => rfl) ?z47
    (case a47 => k_is); (case l47 => k_is); (case c47 => k_is); (case k47 => k_is)
    intro d_mark_of
    refine' TL.withDef (x := "has_log") (st := topS 53) (ps := ["row", "sizes", "log"]) KX G ?a53 ?l53 ?c53 ?k53 (fun _ _ _ _ _ _ us hl => match us, hl with | [_, _, _], _ => rfl) ?z53
    (case a53 => k_is); (case l53 => k_is); (case c53 => k_is); (case k53 => k_is)
    intro d_has_log
    refine' TL.withDef (x := "hits_by") (st := topS 55) (ps := ["log", "number"]) KX G ?a55 ?l55 ?c55 ?k55 (fun _ _ _ _ _ _ us hl => match us, hl with | [_, _], _ => rfl) ?z55
    (case a55 => k_is); (case l55 => k_is); (case c55 => k_is); (case k55 => k_is)
    intro d_hits_by
    refine' TL.withDef (x := "log_hits") (st := topS 56) (ps := ["sizes", "log", "number"]) KX G ?a56 ?l56 ?c56 ?k56 (fun _ _ _ _ _ _ us hl => match us, hl with | [_, _, _], _ => rfl) ?z56
    (case a56 => k_is); (case l56 => k_is); (case c56 => k_is); (case k56 => k_is)
    intro d_log_hits
    refine' TL.withDef (x := "log_of") (st := topS 48) (ps := ["row", "sizes"]) KX G ?a48 ?l48 ?c48 ?k48 (fun _ _ _ _ _ _ us hl => match us, hl with | [_, _], _ => rfl) ?z48
    (case a48 => k_is); (case l48 => k_is); (case c48 => k_is); (case k48 => k_is)
    intro d_log_of
    refine' TL.withDef (x := "are_pins") (st := topS 58) (ps := ["places", "value"]) KX G ?a58 ?l58 ?c58 ?k58 (fun _ _ _ _ _ _ us hl => match us, hl with | [_, _], _ => rfl) ?z58
    (case a58 => k_is); (case l58 => k_is); (case c58 => k_is); (case k58 => k_is)
    intro d_are_pins
    refine' TL.withDef (x := "check_pins") (st := topS 59) (ps := ["places", "pins"]) KX G ?a59 ?l59 ?c59 ?k59 (fun _ _ _ _ _ _ us hl => match us, hl with | [_, _], _ => rfl) ?z59
    (case a59 => k_is); (case l59 => k_is); (case c59 => k_is); (case k59 => k_is)
    intro d_check_pins
    refine' TL.withDef (x := "check_places") (st := topS 20) (ps := ["places"]) KX G ?a20 ?l20 ?c20 ?k20 (fun _ _ _ _ _ _ us hl => match us, hl with | [_], _ => rfl) ?z20
    (case a20 => k_is); (case l20 => k_is); (case c20 => k_is); (case k20 => k_is)
    intro d_check_places
    refine' TL.withDef (x := "pinned_misses") (st := topS 60) (ps := ["row", "places", "pins"]) KX G ?a60 ?l60 ?c60 ?k60 (fun _ _ _ _ _ _ us hl => match us, hl with | [_, _, _], _ => rfl) ?z60
    (case a60 => k_is); (case l60 => k_is); (case c60 => k_is); (case k60 => k_is)
    intro d_pinned_misses
    refine' TL.withDef (x := "pinned_fetches") (st := topS 61) (ps := ["row", "places", "pins"]) KX G ?a61 ?l61 ?c61 ?k61 (fun _ _ _ _ _ _ us hl => match us, hl with | [_, _, _], _ => rfl) ?z61
    (case a61 => k_is); (case l61 => k_is); (case c61 => k_is); (case k61 => k_is)
    intro d_pinned_fetches
    refine' TL.withDef (x := "are_asks_of") (st := topS 29) (ps := ["row", "value"]) KX G ?a29 ?l29 ?c29 ?k29 (fun _ _ _ _ _ _ us hl => match us, hl with | [_, _], _ => rfl) ?z29
    (case a29 => k_is); (case l29 => k_is); (case c29 => k_is); (case k29 => k_is)
    intro d_are_asks_of
    refine' TL.withDef (x := "check_seen") (st := topS 30) (ps := ["row", "hits", "fetched"]) KX G ?a30 ?l30 ?c30 ?k30 (fun _ _ _ _ _ _ us hl => match us, hl with | [_, _, _], _ => rfl) ?z30
    (case a30 => k_is); (case l30 => k_is); (case c30 => k_is); (case k30 => k_is)
    intro d_check_seen
    refine' TL.withDef (x := "ends_of") (st := topS 32) (ps := ["row", "hits", "fetched"]) KX G ?a32 ?l32 ?c32 ?k32 (fun _ _ _ _ _ _ us hl => match us, hl with | [_, _, _], _ => rfl) ?z32
    (case a32 => k_is); (case l32 => k_is); (case c32 => k_is); (case k32 => k_is)
    intro d_ends_of
    refine' TL.withDef (x := "farthest_hit") (st := topS 33) (ps := ["row", "hits"]) KX G ?a33 ?l33 ?c33 ?k33 (fun _ _ _ _ _ _ us hl => match us, hl with | [_, _], _ => rfl) ?z33
    (case a33 => k_is); (case l33 => k_is); (case c33 => k_is); (case k33 => k_is)
    intro d_farthest_hit
    refine' TL.withDef (x := "firsts_among") (st := topS 31) (ps := ["row", "hits"]) KX G ?a31 ?l31 ?c31 ?k31 (fun _ _ _ _ _ _ us hl => match us, hl with | [_, _], _ => rfl) ?z31
    (case a31 => k_is); (case l31 => k_is); (case c31 => k_is); (case k31 => k_is)
    intro d_firsts_among
    refine' TL.withDef (x := "nearest_fetch") (st := topS 34) (ps := ["row", "fetched"]) KX G ?a34 ?l34 ?c34 ?k34 (fun _ _ _ _ _ _ us hl => match us, hl with | [_, _], _ => rfl) ?z34
    (case a34 => k_is); (case l34 => k_is); (case c34 => k_is); (case k34 => k_is)
    intro d_nearest_fetch
    refine' TL.withDef (x := "places_or_asks") (st := topS 35) (ps := ["row", "hits", "fetched"]) KX G ?a35 ?l35 ?c35 ?k35 (fun _ _ _ _ _ _ us hl => match us, hl with | [_, _, _], _ => rfl) ?z35
    (case a35 => k_is); (case l35 => k_is); (case c35 => k_is); (case k35 => k_is)
    intro d_places_or_asks
    refine' TL.withDef (x := "fits_seen") (st := topS 36) (ps := ["row", "hits", "fetched", "places"]) KX G ?a36 ?l36 ?c36 ?k36 (fun _ _ _ _ _ _ us hl => match us, hl with | [_, _, _, _], _ => rfl) ?z36
    (case a36 => k_is); (case l36 => k_is); (case c36 => k_is); (case k36 => k_is)
    intro d_fits_seen
    refine' TL.withDef (x := "places_seen") (st := topS 37) (ps := ["row", "hits", "fetched"]) KX G ?a37 ?l37 ?c37 ?k37 (fun _ _ _ _ _ _ us hl => match us, hl with | [_, _, _], _ => rfl) ?z37
    (case a37 => k_is); (case l37 => k_is); (case c37 => k_is); (case k37 => k_is)
    intro d_places_seen
    refine' TL.withDef (x := "check_most") (st := topS 51) (ps := ["most"]) KX G ?a51 ?l51 ?c51 ?k51 (fun _ _ _ _ _ _ us hl => match us, hl with | [_], _ => rfl) ?z51
    (case a51 => k_is); (case l51 => k_is); (case c51 => k_is); (case k51 => k_is)
    intro d_check_most
    refine' TL.withDef (x := "row_of") (st := topS 41) (ps := ["told"]) KX G ?a41 ?l41 ?c41 ?k41 (fun _ _ _ _ _ _ us hl => match us, hl with | [_], _ => rfl) ?z41
    (case a41 => k_is); (case l41 => k_is); (case c41 => k_is); (case k41 => k_is)
    intro d_row_of
    refine' TL.withDef (x := "row_or_ask") (st := topS 52) (ps := ["sizes", "log", "most"]) KX G ?a52 ?l52 ?c52 ?k52 (fun _ _ _ _ _ _ us hl => match us, hl with | [_, _, _], _ => rfl) ?z52
    (case a52 => k_is); (case l52 => k_is); (case c52 => k_is); (case k52 => k_is)
    intro d_row_or_ask
    refine' TL.withDef (x := "things_of") (st := topS 22) (ps := ["row"]) KX G ?a22 ?l22 ?c22 ?k22 (fun _ _ _ _ _ _ us hl => match us, hl with | [_], _ => rfl) ?z22
    (case a22 => k_is); (case l22 => k_is); (case c22 => k_is); (case k22 => k_is)
    intro d_things_of
    refine' TL.withDef (x := "things") (st := topS 23) (ps := ["row"]) KX G ?a23 ?l23 ?c23 ?k23 (fun _ _ _ _ _ _ us hl => match us, hl with | [_], _ => rfl) ?z23
    (case a23 => k_is); (case l23 => k_is); (case c23 => k_is); (case k23 => k_is)
    intro d_things
    refine' TL.withDef (x := "telling_ask") (st := topS 38) (ps := ["row", "places"]) KX G ?a38 ?l38 ?c38 ?k38 (fun _ _ _ _ _ _ us hl => match us, hl with | [_, _], _ => rfl) ?z38
    (case a38 => k_is); (case l38 => k_is); (case c38 => k_is); (case k38 => k_is)
    intro d_telling_ask
    refine' TL.withDef (x := "told_apart") (st := topS 39) (ps := ["row"]) KX G ?a39 ?l39 ?c39 ?k39 (fun _ _ _ _ _ _ us hl => match us, hl with | [_], _ => rfl) ?z39
    (case a39 => k_is); (case l39 => k_is); (case c39 => k_is); (case k39 => k_is)
    intro d_told_apart
    refine' TL.withDef (x := "are_weights") (st := topS 18) (ps := ["value"]) KX G ?a18 ?l18 ?c18 ?k18 (fun _ _ _ _ _ _ us hl => match us, hl with | [_], _ => rfl) ?z18
    (case a18 => k_is); (case l18 => k_is); (case c18 => k_is); (case k18 => k_is)
    intro d_are_weights
    refine' TL.withDef (x := "check_weights") (st := topS 21) (ps := ["weights"]) KX G ?a21 ?l21 ?c21 ?k21 (fun _ _ _ _ _ _ us hl => match us, hl with | [_], _ => rfl) ?z21
    (case a21 => k_is); (case l21 => k_is); (case c21 => k_is); (case k21 => k_is)
    intro d_check_weights
    refine' TL.withDef (x := "unused_curve") (st := topS 27) (ps := ["row", "weights"]) KX G ?a27 ?l27 ?c27 ?k27 (fun _ _ _ _ _ _ us hl => match us, hl with | [_, _], _ => rfl) ?z27
    (case a27 => k_is); (case l27 => k_is); (case c27 => k_is); (case k27 => k_is)
    intro d_unused_curve
    refine' TL.withDef (x := "unused_hits") (st := topS 26) (ps := ["row", "places"]) KX G ?a26 ?l26 ?c26 ?k26 (fun _ _ _ _ _ _ us hl => match us, hl with | [_, _], _ => rfl) ?z26
    (case a26 => k_is); (case l26 => k_is); (case c26 => k_is); (case k26 => k_is)
    intro d_unused_hits
    refine' TL.withDef (x := "law") (st := topS 73) (ps := ["script"]) KX G ?a73 ?l73 ?c73 ?k73 (fun _ _ _ _ _ _ us hl => match us, hl with | [_], _ => rfl) ?z73
    (case a73 => k_is); (case l73 => k_is); (case c73 => k_is); (case k73 => k_is)
    intro d_law
    have z_bool : mg "bool" = none := PySem.W.mg_none_of KX G (by k_is)
    have z_enumerate : mg "enumerate" = none := PySem.W.mg_none_of KX G (by k_is)
    have z_int : mg "int" = none := PySem.W.mg_none_of KX G (by k_is)
    have z_isinstance : mg "isinstance" = none := PySem.W.mg_none_of KX G (by k_is)
    have z_len : mg "len" = none := PySem.W.mg_none_of KX G (by k_is)
    have z_list : mg "list" = none := PySem.W.mg_none_of KX G (by k_is)
    have z_max : mg "max" = none := PySem.W.mg_none_of KX G (by k_is)
    have z_min : mg "min" = none := PySem.W.mg_none_of KX G (by k_is)
    have z_range : mg "range" = none := PySem.W.mg_none_of KX G (by k_is)
    have z_repr : mg "repr" = none := PySem.W.mg_none_of KX G (by k_is)
    have z_set : mg "set" = none := PySem.W.mg_none_of KX G (by k_is)
    have z_sorted : mg "sorted" = none := PySem.W.mg_none_of KX G (by k_is)
    have z_sum : mg "sum" = none := PySem.W.mg_none_of KX G (by k_is)
    refine' TL.withInt (x := "LONGEST") (i := 60) KX G ?a_LONGEST ?z_LONGEST
    (case a_LONGEST => k_is)
    intro n_LONGEST
    refine' TL.withInt (x := "MOST_THINGS") (i := 26) KX G ?a_MOST_THINGS ?z_MOST_THINGS
    (case a_MOST_THINGS => k_is)
    intro n_MOST_THINGS
    refine' TL.withInt (x := "MOST_WEIGHT") (i := 1000) KX G ?a_MOST_WEIGHT ?z_MOST_WEIGHT
    (case a_MOST_WEIGHT => k_is)
    intro n_MOST_WEIGHT
    exact TL.law_end d_law hmg (fun base h1 h2 => f_law (w := w) (base := base) ⟨d__law_hash, d__law_random, d__law_drawn_order, d__law_pick, d__law_drawn_row, d__law_cell, d__law_generator, d_is_whole, d_is_count, d_is_below, d_is_thing, d_is_row, d_check_row, d_is_places, d_check_shelves, d_distances_of, d_shelf_hits, d_blames, d_is_log, d_check_log, d_are_sizes, d_check_sizes, d_least_far, d_told_distances, d_fewest_things, d_mark_of, d_has_log, d_hits_by, d_log_hits, d_log_of, d_are_pins, d_check_pins, d_check_places, d_pinned_misses, d_pinned_fetches, d_are_asks_of, d_check_seen, d_ends_of, d_farthest_hit, d_firsts_among, d_nearest_fetch, d_places_or_asks, d_fits_seen, d_places_seen, d_check_most, d_row_of, d_row_or_ask, d_things_of, d_things, d_telling_ask, d_told_apart, d_are_weights, d_check_weights, d_unused_curve, d_unused_hits, d_law, z_bool, z_enumerate, z_int, z_isinstance, z_len, z_list, z_max, z_min, z_range, z_repr, z_set, z_sorted, z_sum, n_LONGEST, n_MOST_THINGS, n_MOST_WEIGHT⟩) law_true fun _ _ _ _ _ _ _ => rfl
