import PyProof.Rows.All
import Wide.All
import OpenK.AllK
import Wide.FinOn
import HandS.ForMost
import HandS.Exc
import HandS.Defaults
import HandS.TupAny
import HandS.TupMul
import HandS.TupLen
import HandS.Deep
import HandS.Style
import HandS.Conv
import HandS.Zip
import KE.SortData
import PyProof.SeqIndex
import PyProof.ReprRoads
import PyProof.ReprLen
import PyProof.Rows.InDataRows
import KE.DataMinMax
import KE.DataAny
import KE.DataFind
import KE.DataEq
import KE.DataCmp
import KE.SortLaws
import KE.DatumIndex
import PyProof.TupleOfSeq
import KE.SortKeyHeap
import HandS.MakeKwOnly
import KE.GoesMore
import KE.GoesEnum
import HandS.SortKw
import HandS.HeadEnd
import HandS.Head0
import HandS.Head1
import HandS.Head2
import HandS.HeadHook1
import HandS.HeadHook2
import PySem.Challenge.RW_piecetrees_k84_rows_put_to_and_told_othe
set_option Elab.async false
set_option linter.all false
set_option maxRecDepth 100000
set_option maxHeartbeats 2000000
/-! VA: defs that are called where no repr is under way -/
namespace VI
open PySem PySem.Spec PyProof.Rows L2

abbrev Gd (A : Around) : Prop := A.guards = some []

/-- a def keeps its promise wherever no repr is under way -/
structure FnG (P : Program) (w : World) (K : PySem.W.Frag) (mg : Str → Option Value) (base : Heap) (k : Nat) (f : Addr) (fd : FuncData) (ps : List Str) (sp : Sp) : Prop where
  ln : ∀ xs h q e, sp xs h q e → xs.length = ps.length
  go : ∀ (B : Around) (fr : List Env) (st : Shared) (h : Hp) (ar : Args) (us : List Value) (xs : List V) (q : VK) (e : XK),
    Gd B → Room k B → Env0 P w K mg base B fr st h → BindsTo st fd ar (ps.zip us) → Vals xs us → sp xs h q e →
    codeAny (model P w) B (.call (.ref f) ar) (CR (L2.CX P w) fr P w h st q e) st

section
variable {P : Program} {w : World} {K : PySem.W.Frag} {mg : Str → Option Value} {base : Heap} {j k : Nat} {f : Addr} {fd : FuncData} {ps : List Str} {sp sp' : Sp}
theorem FnG.up (F : FnG P w K mg base j f fd ps sp) (h : j ≤ k) : FnG P w K mg base k f fd ps sp :=
  ⟨F.ln, fun B fr st h' ar us xs q e g r => F.go B fr st h' ar us xs q e g (r.mono h)⟩
theorem FnG.less (F : FnG P w K mg base k f fd ps sp) (h : ∀ xs hp q e, sp' xs hp q e → sp xs hp q e) : FnG P w K mg base k f fd ps sp' :=
  ⟨fun xs hp q e z => F.ln xs hp q e (h _ _ _ _ z), fun B fr st h' ar us xs q e g r z b v y => F.go B fr st h' ar us xs q e g r z b v (h _ _ _ _ y)⟩

/-- from the body -/
theorem gn_of {qual : Str} {st : Stmt} {x : Str} {N : List Str} (F : Fun K x qual st f fd) (S : FnScope N ps (defScope st))
    (ln : ∀ xs h q e, sp xs h q e → xs.length = ps.length)
    (hb : ∀ (cdv : Value) (B : Around) (fr : List Env) (s : Shared) (h : Hp) (xs : List V) (q : VK) (e : XK), Gd B → Room k (B.deeper (envOfC qual (defScope st) s.heap.objs.size f cdv)) → sp xs h q e →
      ∃ t, PSs (cxOf (L2.CX P w) P w K mg base N qual (defScope st) f cdv B fr s h e) (defBody st) t ∧ t { nx := fun _ h' => q .non h', rt := q } (start N xs) h) :
    FnG P w K mg base (k + 1) f fd ps sp := by
  obtain ⟨oc, od, kV, doc, pm, an, cdv, ct, osl, rfl, lk, hcd⟩ := F.ex
  refine ⟨ln, fun B fr s h ar us xs q e gd hr e0 bt rv hsp => ?_⟩
  have KX : K.In s.heap := e0.mod.kin.keeps fun b o z => (e0.bs b o z).1
  have nl : s.heap.NoLimit := e0.mod.nolimit.keeps fun b o z => (e0.bs b o z).1
  have hl := ln _ _ _ _ hsp
  refine codeAny_call_function hr.depth (KX _ _ lk) rfl S.co S.gen rfl (PySem.W.codeRec_of KX hcd) (bt _ _ _ _ ?_)
  refine wpAny_newFunctionEnv_cells S.kind (fun ⟨n, v⟩ hy => ?_) fun en he s1 x1 => ?_
  · have hp := S.par n (List.of_mem_zip hy).1
    rcases hp with z | z
    · exact .inl z
    · exact .inr ⟨z, PySem.W.cellsFrom_some _ _ _ (.inl z)⟩
  subst he
  refine ⟨nl.keeps x1.toInCall.keep, codeAny_func ?_⟩
  obtain ⟨t, ht, hq⟩ := hb cdv B fr s h xs q e gd (hr.deeper _) hsp
  have J0 := inv_start (CX := L2.CX P w) (E := e) S hr.hd e0 hl rv x1
  refine wpAny_mono (ht.run [] s1 (start N xs) h _ J0 hq) (fun fl s' hs => ?_) fun _ _ hs => hs
  cases fl with
  | ret u => obtain ⟨v, σ', h', J, r', q'⟩ := hs; exact ⟨v, h', J.os, J.bare, J.base, J.hok, r', q'⟩
  | next => obtain ⟨σ', h', J, q'⟩ := hs; exact ⟨.non, h', J.os, J.bare, J.base, J.hok, rfl, q'⟩
  | brk => obtain ⟨_, _, _, q'⟩ := hs; exact False.elim q'
  | cont => obtain ⟨_, _, _, q'⟩ := hs; exact False.elim q'
end

section
variable {X : Cx} {k : Nat} {f : Addr} {fd : FuncData} {ps ks : List Str} {sp : Sp} {E : XK} {x : Str} {p pos : Pos} {e : Expr} {es : List Expr} {kws : List Keyword} {t tk : TA}

theorem goG {pins : List (Addr × Obj)} {σ : L2.St} {H : Hp} {s : Shared} {Q : VK} {us : List Value} {ar : Args} {vs : List V} (F : FnG X.prog X.w X.K X.mg X.base k f fd ps sp) (gd : Gd X.A) (hr : Room k X.A) (hx : Passes (L2.CX X.prog X.w) X E)
    (I : Inv X pins σ H s) (bt : BindsTo s fd ar (ps.zip us)) (r : Vals vs us) (h : sp vs H Q E) :
    codeAny (model X.prog X.w) X.A (.call (.ref f) ar) (fun rs s' => match rs with | .ok (.ret u) => EP X pins σ Q u s' | .ok _ => False | .error z => X.xe z s') s := by
  refine codeAny_mono (F.go X.A X.stack s H ar us vs Q E gd hr I.env0 bt r h) fun rs s' hq => ?_
  cases rs with
  | error z => exact hx pins σ H s z s' I hq
  | ok fl =>
    cases fl with
    | ret u => exact I.after hq
    | next => exact False.elim hq
    | brk => exact False.elim hq
    | cont => exact False.elim hq
theorem runG {pins : List (Addr × Obj)} {σ : L2.St} {H : Hp} {s : Shared} {Q : VK} {us : List Value} {vs : List V} (F : FnG X.prog X.w X.K X.mg X.base k f fd ps sp) (gd : Gd X.A) (hr : Room k X.A) (hb : Binds X.K fd ps []) (hx : Passes (L2.CX X.prog X.w) X E)
    (I : Inv X pins σ H s) (r : Vals vs us) (h : sp vs H Q E) : wpAny (model X.prog X.w) X.A (call (.ref f) us) (EP X pins σ Q) X.xe s := by
  have hl : (us ++ ([] : List Value)).length = ps.length := by rw [List.append_nil, ← r.length]; exact F.ln _ _ _ _ h
  have bt := hb s us I.kIn hl
  rw [List.append_nil] at bt
  refine wpAny_call (codeAny_mono (goG F gd hr hx I bt r h) fun rs s' hq => ?_)
  cases rs with
  | error z => exact hq
  | ok fl => cases fl <;> exact hq
/-- f(a, ..) -/
theorem pe_callG (F : FnG X.prog X.w X.K X.mg X.base k f fd ps sp) (gd : Gd X.A) (hr : Room k X.A) (hg : Gl X x) (hm : X.mg x = some (.ref f)) (hk : PySem.W.keepIn X.K (.ref f) = true) (hb : Binds X.K fd ps []) (hx : Passes (L2.CX X.prog X.w) X E)
    (ha : PA X (e :: es) t) (hdb : (x == ("__debug__" : Str)) = false) (he : starEach (e :: es) X.env = (false, eval e X.env) :: starEach es X.env) (hpl : (backTo pos (starEach es X.env)).any (·.1) = false) :
    PE X (.Call (.Name x p) (e :: es) [] pos) (fun σ H Q => t σ H fun vs H1 => sp vs H1 Q E) := by
  refine ⟨fun pins s σ H Q I h => wpAny_Call_Name_kw (ld_glob I hg hm ?_ hdb)⟩
  refine PySem.W.callWith_K (h₀ := X.base) I.ok.mod.kin hk (thn (ha.run pos pins s σ H _ I h) fun us s1 z => ?_) he hpl
  obtain ⟨vs, H1, I1, r, q⟩ := z
  exact ⟨I1.kIn, runG F gd hr hb hx I1 r q⟩
/-- f() -/
theorem pe_callG0 (F : FnG X.prog X.w X.K X.mg X.base k f fd ps sp) (gd : Gd X.A) (hr : Room k X.A) (hg : Gl X x) (hm : X.mg x = some (.ref f)) (hk : PySem.W.keepIn X.K (.ref f) = true) (hb : Binds X.K fd ps []) (hx : Passes (L2.CX X.prog X.w) X E)
    (hdb : (x == ("__debug__" : Str)) = false) : PE X (.Call (.Name x p) [] [] pos) (fun σ H Q => sp [] H Q E) := by
  refine ⟨fun pins s σ H Q I h => wpAny_Call_Name_kw (ld_glob I hg hm ?_ hdb)⟩
  exact PySem.W.callWith_K0 I.kIn hk (runG (us := []) F gd hr hb hx I .nil h)
end
end VI
set_option Elab.async false
set_option linter.all false
set_option maxRecDepth 100000
set_option maxHeartbeats 2000000
/-! VB: data, what bears them in a heap -/
namespace VI
open PySem PySem.Spec PyProof.Rows L2

inductive D where
  | non | bl (b : Bool) | int (i : Int) | str (x : Str)
  | tup (xs : List D) | lst (xs : List D)
  | dT (ks : List (List Key)) (vs : List D) | dK (ks : List Key) (vs : List D)
  | deck
  deriving Inhabited

abbrev Env := List (Option D)
/-- an exception: its class's name, what it was made with -/
abbrev XD := Str × List D

def Ex (P H : Hp) : Prop := ∀ a o, P a = some o → H a = some o
theorem Ex.refl (P : Hp) : Ex P P := fun _ _ h => h
theorem Ex.trans {P H L : Hp} (a : Ex P H) (b : Ex H L) : Ex P L := fun x o h => b x o (a x o h)
theorem Ex.rd {P H : Hp} (e : Ex P H) {a : Addr} {u : HO} (h : Rd P a u) : Rd H a u := by
  rcases h with h | ⟨o, h⟩
  · exact .inl (e a _ h)
  · exact .inr ⟨o, e a _ h⟩
theorem Ex.sqL {K : PySem.W.Frag} {P H : Hp} (e : Ex P H) {a : Addr} {xs : List V} (h : SqL K P a xs) : SqL K H a xs := h.imp (e.rd ·) id
theorem Ex.sqT {K : PySem.W.Frag} {P H : Hp} (e : Ex P H) {a : Addr} {xs : List V} (h : SqT K P a xs) : SqT K H a xs := h.imp (e.rd ·) id

section
variable (dk : Addr) (P : Hp)
mutual
def R : D → V → Prop
  | .non, v => v = .non
  | .bl b, v => v = .bl b
  | .int i, v => v = .int i
  | .str x, v => v = .str x
  | .tup ds, v => ∃ a xs, v = .ref a ∧ P a = some (.tup xs) ∧ Rs ds xs
  | .lst ds, v => ∃ a xs, v = .ref a ∧ P a = some (.lst xs) ∧ Rs ds xs
  | .dT ks ds, v => ∃ a kvs, v = .ref a ∧ P a = some (.dT kvs) ∧ kvs.map (·.1) = ks ∧ Rs ds (kvs.map (·.2))
  | .dK ks ds, v => ∃ a kvs, v = .ref a ∧ P a = some (.dK kvs) ∧ kvs.map (·.1) = ks ∧ Rs ds (kvs.map (·.2))
  | .deck, v => v = .ref dk
def Rs : List D → List V → Prop
  | [], vs => vs = []
  | d :: ds, vs => ∃ v r, vs = v :: r ∧ R d v ∧ Rs ds r
end
end
section
variable {dk : Addr} {P H : Hp}
mutual
theorem R.mono (e : Ex P H) : ∀ (d : D) (v : V), R dk P d v → R dk H d v
  | .non, _, h => by simpa only [R] using h
  | .bl _, _, h => by simpa only [R] using h
  | .int _, _, h => by simpa only [R] using h
  | .str _, _, h => by simpa only [R] using h
  | .tup ds, _, h => by
    simp only [R] at h ⊢
    obtain ⟨a, xs, h1, h2, h3⟩ := h
    exact ⟨a, xs, h1, e _ _ h2, Rs.mono e ds xs h3⟩
  | .lst ds, _, h => by
    simp only [R] at h ⊢
    obtain ⟨a, xs, h1, h2, h3⟩ := h
    exact ⟨a, xs, h1, e _ _ h2, Rs.mono e ds xs h3⟩
  | .dT ks ds, _, h => by
    simp only [R] at h ⊢
    obtain ⟨a, xs, h1, h2, h4, h3⟩ := h
    exact ⟨a, xs, h1, e _ _ h2, h4, Rs.mono e ds _ h3⟩
  | .dK ks ds, _, h => by
    simp only [R] at h ⊢
    obtain ⟨a, xs, h1, h2, h4, h3⟩ := h
    exact ⟨a, xs, h1, e _ _ h2, h4, Rs.mono e ds _ h3⟩
  | .deck, _, h => by simpa only [R] using h
theorem Rs.mono (e : Ex P H) : ∀ (ds : List D) (vs : List V), Rs dk P ds vs → Rs dk H ds vs
  | [], _, h => by simpa only [Rs] using h
  | d :: ds, _, h => by
    simp only [Rs] at h ⊢
    obtain ⟨v, r, h1, h2, h3⟩ := h
    exact ⟨v, r, h1, R.mono e d v h2, Rs.mono e ds r h3⟩
end
theorem Rs.nil : Rs dk P [] [] := by simp only [Rs]
theorem Rs.cons {d : D} {v : V} {ds : List D} {vs : List V} (h : R dk P d v) (t : Rs dk P ds vs) : Rs dk P (d :: ds) (v :: vs) := by
  simp only [Rs]; exact ⟨v, vs, rfl, h, t⟩
theorem Rs.iff : ∀ {ds : List D} {vs : List V}, Rs dk P ds vs ↔ Paired (R dk P) ds vs
  | [], vs => by
    simp only [Rs]
    constructor
    · rintro rfl; exact .nil
    · intro h; cases h; rfl
  | d :: ds, vs => by
    simp only [Rs]
    constructor
    · rintro ⟨v, r, rfl, h, t⟩; exact .cons h (Rs.iff.mp t)
    · intro h
      cases h with
      | cons h t => exact ⟨_, _, rfl, h, Rs.iff.mpr t⟩
theorem pr_get {α β : Type} {F : α → β → Prop} : ∀ {l : List α} {m : List β} {i : Nat} {a : α}, Paired F l m → l[i]? = some a → ∃ b, m[i]? = some b ∧ F a b
  | _, _, _, _, .nil, h => by simp at h
  | _, _, 0, _, .cons r _, h => by simp at h; subst h; exact ⟨_, rfl, r⟩
  | _, _, i + 1, _, .cons _ t, h => by
    obtain ⟨b, h1, h2⟩ := pr_get (i := i) t (by simpa using h)
    exact ⟨b, by simpa using h1, h2⟩
theorem pr_get' {α β : Type} {F : α → β → Prop} : ∀ {l : List α} {m : List β} {i : Nat} {b : β}, Paired F l m → m[i]? = some b → ∃ a, l[i]? = some a ∧ F a b
  | _, _, _, _, .nil, h => by simp at h
  | _, _, 0, _, .cons r _, h => by simp at h; subst h; exact ⟨_, rfl, r⟩
  | _, _, i + 1, _, .cons _ t, h => by
    obtain ⟨b, h1, h2⟩ := pr_get' (i := i) t (by simpa using h)
    exact ⟨b, by simpa using h1, h2⟩
theorem pr_app {α β : Type} {F : α → β → Prop} : ∀ {l l' : List α} {m m' : List β}, Paired F l m → Paired F l' m' → Paired F (l ++ l') (m ++ m')
  | _, _, _, _, .nil, t => t
  | _, _, _, _, .cons r t, t' => .cons r (pr_app t t')
theorem pr_take {α β : Type} {F : α → β → Prop} : ∀ {l : List α} {m : List β} (n : Nat), Paired F l m → Paired F (l.take n) (m.take n)
  | _, _, 0, _ => .nil
  | _, _, _ + 1, .nil => .nil
  | _, _, n + 1, .cons r t => .cons r (pr_take n t)
theorem pr_drop {α β : Type} {F : α → β → Prop} : ∀ {l : List α} {m : List β} (n : Nat), Paired F l m → Paired F (l.drop n) (m.drop n)
  | _, _, 0, t => t
  | _, _, _ + 1, .nil => .nil
  | _, _, n + 1, .cons _ t => pr_drop n t
theorem pr_rev {α β : Type} {F : α → β → Prop} : ∀ {l : List α} {m : List β}, Paired F l m → Paired F l.reverse m.reverse
  | _, _, .nil => .nil
  | _, _, .cons r t => by rw [List.reverse_cons, List.reverse_cons]; exact pr_app (pr_rev t) (.cons r .nil)
theorem pr_set {α β : Type} {F : α → β → Prop} {a : α} {b : β} (h : F a b) : ∀ {l : List α} {m : List β} (i : Nat), Paired F l m → Paired F (l.set i a) (m.set i b)
  | _, _, _, .nil => .nil
  | _, _, 0, .cons _ t => .cons h t
  | _, _, i + 1, .cons r t => .cons r (pr_set h i t)
theorem pr_erase {α β : Type} {F : α → β → Prop} : ∀ {l : List α} {m : List β} (i : Nat), Paired F l m → Paired F (l.eraseIdx i) (m.eraseIdx i)
  | _, _, _, .nil => .nil
  | _, _, 0, .cons _ t => t
  | _, _, i + 1, .cons r t => .cons r (pr_erase i t)
theorem pr_len {α β : Type} {F : α → β → Prop} : ∀ {l : List α} {m : List β}, Paired F l m → l.length = m.length
  | _, _, .nil => rfl
  | _, _, .cons _ t => by rw [List.length_cons, List.length_cons, pr_len t]
theorem pr_rep {α β : Type} {F : α → β → Prop} {l : List α} {m : List β} (h : Paired F l m) : ∀ k : Nat, Paired F (List.replicate k l).flatten (List.replicate k m).flatten
  | 0 => .nil
  | k + 1 => by rw [List.replicate_succ, List.replicate_succ, List.flatten_cons, List.flatten_cons]; exact pr_app h (pr_rep h k)
theorem Rs.len {ds : List D} {vs : List V} (h : Rs dk P ds vs) : ds.length = vs.length := pr_len (Rs.iff.mp h)
theorem Rs.get {ds : List D} {vs : List V} (h : Rs dk P ds vs) {i : Nat} {d : D} (e : ds[i]? = some d) : ∃ v, vs[i]? = some v ∧ R dk P d v := pr_get (Rs.iff.mp h) e
theorem Rs.get' {ds : List D} {vs : List V} (h : Rs dk P ds vs) {i : Nat} {v : V} (e : vs[i]? = some v) : ∃ d, ds[i]? = some d ∧ R dk P d v := pr_get' (Rs.iff.mp h) e
theorem Rs.app {ds es : List D} {vs us : List V} (h : Rs dk P ds vs) (t : Rs dk P es us) : Rs dk P (ds ++ es) (vs ++ us) := Rs.iff.mpr (pr_app (Rs.iff.mp h) (Rs.iff.mp t))
end

/-! ### the world that expressions may change: nothing, or what draws come from -/
structure Wd where
  dk : Addr
  ad : Addr → Prop
  ok : Hp → Prop
  fr : ∀ H H' : Hp, (∀ a, ad a → H' a = H a) → ok H → ok H'
  has : ∀ (H : Hp) a, ok H → ad a → H a ≠ none
def Wd.none : Wd := ⟨0, fun _ => False, fun _ => True, fun _ _ _ _ => trivial, fun _ _ _ h => h.elim⟩

/-- P is the part of H that stays -/
structure HP (W : Wd) (P H : Hp) : Prop where
  sub : Ex P H
  av : ∀ a, P a ≠ none → ¬ W.ad a
  ok : W.ok H
/-- a step -/
structure Stp (W : Wd) (P H P' H' : Hp) : Prop where
  hp : HP W P' H'
  up : Ex P P'
  new : ∀ a, P' a ≠ none → P a ≠ none ∨ H a = none
  keep : ∀ a o, H a = some o → ¬ W.ad a → H' a = some o
theorem Stp.refl {W : Wd} {P H : Hp} (h : HP W P H) : Stp W P H P H := ⟨h, Ex.refl P, fun _ z => .inl z, fun _ _ z _ => z⟩
theorem Stp.back {W : Wd} {P H P' H' : Hp} (s : Stp W P H P' H') (ok : W.ok H) {a : Addr} (h : H' a = none) : H a = none := by
  cases e : H a with
  | none => rfl
  | some o =>
    by_cases ha : W.ad a
    · exact absurd h (W.has _ _ s.hp.ok ha)
    · rw [s.keep a o e ha] at h; cases h
theorem Stp.trans {W : Wd} {P H P1 H1 P2 H2 : Hp} (ok : W.ok H) (s : Stp W P H P1 H1) (t : Stp W P1 H1 P2 H2) : Stp W P H P2 H2 :=
  ⟨t.hp, s.up.trans t.up, fun a h => (t.new a h).elim (fun z => s.new a z) fun z => .inr (s.back ok z), fun a o h n => t.keep a o (s.keep a o h n) n⟩
/-- a new object -/
theorem Stp.lay {W : Wd} {P H : Hp} (h : HP W P H) {a : Addr} (o : HO) (n : H a = none) : Stp W P H (upd P a o) (upd H a o) := by
  have na : ¬ W.ad a := fun z => W.has _ _ h.ok z n
  have pn : P a = none := by
    cases e : P a with
    | none => rfl
    | some u => rw [h.sub a u e] at n; cases n
  refine ⟨⟨fun b u e => ?_, fun b e => ?_, W.fr H _ (fun b hb => ?_) h.ok⟩, fun b u e => ?_, fun b e => ?_, fun b u e _ => ?_⟩
  · by_cases hb : b = a
    · subst hb; rw [upd_same] at e ⊢; exact e
    · rw [upd_ne hb] at e ⊢; exact h.sub b u e
  · by_cases hb : b = a
    · subst hb; exact na
    · rw [upd_ne hb] at e; exact h.av b e
  · exact upd_ne fun z => na (z ▸ hb)
  · rw [upd_ne (ne_of_none e pn)]; exact e
  · by_cases hb : b = a
    · subst hb; exact .inr n
    · rw [upd_ne hb] at e; exact .inl e
  · rw [upd_ne (ne_of_none e n)]; exact e

/-! ### owned objects: footprints -/
def cup (P F : Hp) : Hp := fun a => match P a with
  | some o => some o
  | none => F a
theorem cup_l {P F : Hp} : Ex P (cup P F) := fun a o h => by unfold cup; rw [h]
theorem cup_r {P F : Hp} {a : Addr} {o : HO} (n : P a = none) (h : F a = some o) : cup P F a = some o := by unfold cup; rw [n]; exact h
theorem cup_of {P F : Hp} {a : Addr} {o : HO} (h : cup P F a = some o) : P a = some o ∨ (P a = none ∧ F a = some o) := by
  unfold cup at h
  cases e : P a with
  | none => rw [e] at h; exact .inr ⟨rfl, h⟩
  | some u => rw [e] at h; exact .inl h
theorem cup_some {P F : Hp} {a : Addr} (h : cup P F a ≠ none) : P a ≠ none ∨ F a ≠ none := by
  cases e : cup P F a with
  | none => exact absurd e h
  | some o =>
    rcases cup_of e with z | ⟨_, z⟩
    · exact .inl (by rw [z]; exact fun q => nomatch q)
    · exact .inr (by rw [z]; exact fun q => nomatch q)
def emp : Hp := fun _ => none
def one (a : Addr) (o : HO) : Hp := upd emp a o
theorem one_at {a : Addr} {o : HO} : one a o a = some o := upd_same
theorem one_ne {a b : Addr} {o : HO} (h : b ≠ a) : one a o b = none := by unfold one; rw [upd_ne h]; rfl
theorem one_of {a b : Addr} {o : HO} (h : one a o b ≠ none) : b = a := by
  by_cases e : b = a
  · exact e
  · exact absurd (one_ne e) h

section
variable (dk : Addr)
/-- what an owned object holds -/
def RC (P : Hp) : D → HO → Prop
  | .lst ds, o => ∃ xs, o = .lst xs ∧ Rs dk P ds xs
  | .dT ks ds, o => ∃ kvs, o = .dT kvs ∧ kvs.map (·.1) = ks ∧ Rs dk P ds (kvs.map (·.2))
  | .dK ks ds, o => ∃ kvs, o = .dK kvs ∧ kvs.map (·.1) = ks ∧ Rs dk P ds (kvs.map (·.2))
  | _, _ => False
/-- depth 0: nothing is owned; 1: one object; 2: a list of owned objects -/
def RO : Nat → Hp → Hp → D → V → Prop
  | 0, P, F, d, v => (∀ a, F a = none) ∧ R dk P d v
  | 1, P, F, d, v => ∃ a o, v = .ref a ∧ F = one a o ∧ RC dk P d o
  | _ + 2, P, F, d, v => ∃ a bs ds, v = .ref a ∧ d = .lst ds ∧ F a = some (.lst (bs.map V.ref)) ∧ a ∉ bs ∧ bs.Nodup ∧ (∀ c, F c ≠ none → c = a ∨ c ∈ bs) ∧
      Paired (fun e b => ∃ o, F b = some o ∧ RC dk P e o) ds bs
end
section
variable {dk : Addr} {P P' F : Hp}
theorem RC.mono (e : Ex P P') : ∀ {d : D} {o : HO}, RC dk P d o → RC dk P' d o := by
  intro d o h
  cases d with
  | lst ds => obtain ⟨xs, h1, h2⟩ := h; exact ⟨xs, h1, Rs.mono e _ _ h2⟩
  | dT ks ds => obtain ⟨xs, h1, h3, h2⟩ := h; exact ⟨xs, h1, h3, Rs.mono e _ _ h2⟩
  | dK ks ds => obtain ⟨xs, h1, h3, h2⟩ := h; exact ⟨xs, h1, h3, Rs.mono e _ _ h2⟩
  | _ => exact h.elim
theorem RC.r (e : Ex P P') {a : Addr} {o : HO} (h : P' a = some o) : ∀ {d : D}, RC dk P d o → R dk P' d (.ref a) := by
  intro d z
  cases d with
  | lst ds => obtain ⟨xs, rfl, h2⟩ := z; simp only [R]; exact ⟨a, xs, rfl, h, Rs.mono e _ _ h2⟩
  | dT ks ds => obtain ⟨xs, rfl, h3, h2⟩ := z; simp only [R]; exact ⟨a, xs, rfl, h, h3, Rs.mono e _ _ h2⟩
  | dK ks ds => obtain ⟨xs, rfl, h3, h2⟩ := z; simp only [R]; exact ⟨a, xs, rfl, h, h3, Rs.mono e _ _ h2⟩
  | _ => exact z.elim
theorem RO.mono (e : Ex P P') : ∀ {n : Nat} {d : D} {v : V}, RO dk n P F d v → RO dk n P' F d v
  | 0, _, _, h => ⟨h.1, R.mono e _ _ h.2⟩
  | 1, _, _, h => by obtain ⟨a, o, h1, h2, h3⟩ := h; exact ⟨a, o, h1, h2, h3.mono e⟩
  | _ + 2, _, _, h => by
    obtain ⟨a, bs, ds, h1, h2, h3, h4, h5, h6, h7⟩ := h
    exact ⟨a, bs, ds, h1, h2, h3, h4, h5, h6, Paired.mapP h7 fun x y ⟨o, z1, z2⟩ => ⟨o, z1, z2.mono e⟩⟩
/-- what is owned, given up -/
theorem RO.frz (dj : ∀ a, F a ≠ none → P a = none) : ∀ {n : Nat} {d : D} {v : V}, RO dk n P F d v → R dk (cup P F) d v
  | 0, _, _, h => R.mono cup_l _ _ h.2
  | 1, _, _, h => by
    obtain ⟨a, o, rfl, rfl, h3⟩ := h
    exact h3.r cup_l (cup_r (dj a (by rw [one_at]; exact fun z => nomatch z)) one_at)
  | _ + 2, _, _, h => by
    obtain ⟨a, bs, ds, rfl, rfl, h3, h4, h5, h6, h7⟩ := h
    have at_ : ∀ {b o}, F b = some o → cup P F b = some o := fun {b o} z => cup_r (dj b (by rw [z]; exact fun q => nomatch q)) z
    simp only [R]
    refine ⟨a, _, rfl, at_ h3, Rs.iff.mpr ?_⟩
    clear h3 h4 h5 h6
    induction h7 with
    | nil => exact .nil
    | cons r t ih =>
      obtain ⟨o, z1, z2⟩ := r
      exact .cons (z2.r cup_l (at_ z1)) ih
end

/-- what an expression comes to -/
structure Res (W : Wd) (n : Nat) (P H : Hp) (d : D) (v : V) (P' H' F : Hp) : Prop where
  st : Stp W P H P' H'
  ro : RO W.dk n P' F d v
  fs : Ex F H'
  fn : ∀ a, F a ≠ none → H a = none
  fp : ∀ a, F a ≠ none → P' a = none
section
variable {W : Wd} {n : Nat} {P H P' H' F : Hp} {d : D} {v : V}
theorem Res.r (x : Res W 0 P H d v P' H' F) : R W.dk P' d v := x.ro.2
theorem Res.of (st : Stp W P H P' H') (r : R W.dk P' d v) : Res W 0 P H d v P' H' emp := ⟨st, ⟨fun _ => rfl, r⟩, fun _ _ z => (nomatch z), fun _ z => absurd rfl z, fun _ z => absurd rfl z⟩
/-- P may take in a footprint -/
theorem HP.cup (h : HP W P H) (fs : Ex F H) (av : ∀ a, F a ≠ none → ¬ W.ad a) : HP W (cup P F) H :=
  ⟨fun a o z => (cup_of z).elim (h.sub a o) fun q => fs a o q.2, fun a z => (cup_some z).elim (h.av a) (av a), h.ok⟩
theorem Res.frz (ok : W.ok H) (x : Res W n P H d v P' H' F) : Res W 0 P H d v (VI.cup P' F) H' emp := by
  refine .of ⟨x.st.hp.cup x.fs fun a z q => W.has _ _ ok q (x.fn a z), x.st.up.trans cup_l, fun a z => ?_, x.st.keep⟩ (x.ro.frz x.fp)
  exact (cup_some z).elim (x.st.new a) fun q => .inr (x.fn a q)
theorem Res.trans {P1 H1 : Hp} (ok : W.ok H) (s : Stp W P H P1 H1) (x : Res W n P1 H1 d v P' H' F) : Res W n P H d v P' H' F :=
  ⟨s.trans ok x.st, x.ro, x.fs, fun a z => s.back ok (x.fn a z), x.fp⟩
/-- one new object, owned -/
theorem Res.lay (h : HP W P H) {a : Addr} {o : HO} (na : H a = none) (rc : RC W.dk P d o) : Res W 1 P H d (.ref a) P (upd H a o) (one a o) := by
  have s := Stp.lay h o na
  have pn : P a = none := by
    cases e : P a with
    | none => rfl
    | some u => rw [h.sub a u e] at na; cases na
  refine ⟨⟨⟨fun b u e => ?_, h.av, s.hp.ok⟩, Ex.refl P, fun b z => .inl z, s.keep⟩, ⟨a, o, rfl, rfl, rc⟩, fun b u e => ?_, fun b z => ?_, fun b z => ?_⟩
  · exact s.keep b u (h.sub b u e) (h.av b (by rw [e]; exact fun q => nomatch q))
  · have hb := one_of (o := o) (a := a) (b := b) (by rw [e]; exact fun q => nomatch q)
    subst hb; rw [one_at] at e; rw [upd_same]; exact e
  · rw [one_of z]; exact na
  · rw [one_of z]; exact pn
end
end VI
set_option Elab.async false
set_option linter.all false
set_option maxRecDepth 100000
set_option maxHeartbeats 2000000
/-! VC: operators on data -/
namespace VI
open PySem PySem.Spec PyProof.Rows L2

/-- as R, but the object itself may be owned -/
def RB (W : Wd) (P H : Hp) (d : D) (v : V) : Prop := R W.dk P d v ∨ ∃ a o, v = .ref a ∧ H a = some o ∧ ¬ W.ad a ∧ RC W.dk P d o
section
variable {W : Wd} {P H P' H' : Hp} {d : D} {v : V}
theorem RB.of (h : R W.dk P d v) : RB W P H d v := .inl h
theorem RB.step (s : Stp W P H P' H') (h : RB W P H d v) : RB W P' H' d v := by
  rcases h with h | ⟨a, o, h1, h2, h3, h4⟩
  · exact .inl (R.mono s.up _ _ h)
  · exact .inr ⟨a, o, h1, s.keep a o h2 h3, h3, h4.mono s.up⟩
theorem RB.int {i : Int} (h : RB W P H (.int i) v) : v = .int i := by
  rcases h with h | ⟨_, _, _, _, _, h⟩
  · simpa only [R] using h
  · exact h.elim
theorem RB.bl {i : Bool} (h : RB W P H (.bl i) v) : v = .bl i := by
  rcases h with h | ⟨_, _, _, _, _, h⟩
  · simpa only [R] using h
  · exact h.elim
theorem RB.non (h : RB W P H .non v) : v = .non := by
  rcases h with h | ⟨_, _, _, _, _, h⟩
  · simpa only [R] using h
  · exact h.elim
theorem RB.str {i : Str} (h : RB W P H (.str i) v) : v = .str i := by
  rcases h with h | ⟨_, _, _, _, _, h⟩
  · simpa only [R] using h
  · exact h.elim
theorem RB.tup {ds : List D} (h : RB W P H (.tup ds) v) : ∃ a xs, v = .ref a ∧ P a = some (.tup xs) ∧ Rs W.dk P ds xs := by
  rcases h with h | ⟨_, _, _, _, _, h⟩
  · simpa only [R] using h
  · exact h.elim
theorem RB.lst {ds : List D} (hp : HP W P H) (h : RB W P H (.lst ds) v) : ∃ a xs, v = .ref a ∧ H a = some (.lst xs) ∧ Rs W.dk P ds xs := by
  rcases h with h | ⟨a, o, h1, h2, h3, h⟩
  · simp only [R] at h
    obtain ⟨a, xs, h1, h2, h3⟩ := h
    exact ⟨a, xs, h1, hp.sub _ _ h2, h3⟩
  · obtain ⟨xs, rfl, h4⟩ := h
    exact ⟨a, xs, h1, h2, h4⟩
theorem RB.dT {ks : List (List Key)} {ds : List D} (hp : HP W P H) (h : RB W P H (.dT ks ds) v) : ∃ a kvs, v = .ref a ∧ H a = some (.dT kvs) ∧ kvs.map (·.1) = ks ∧ Rs W.dk P ds (kvs.map (·.2)) := by
  rcases h with h | ⟨a, o, h1, h2, h3, h⟩
  · simp only [R] at h
    obtain ⟨a, xs, h1, h2, h3⟩ := h
    exact ⟨a, xs, h1, hp.sub _ _ h2, h3⟩
  · obtain ⟨xs, rfl, h4⟩ := h
    exact ⟨a, xs, h1, h2, h4⟩
theorem RB.dK {ks : List Key} {ds : List D} (hp : HP W P H) (h : RB W P H (.dK ks ds) v) : ∃ a kvs, v = .ref a ∧ H a = some (.dK kvs) ∧ kvs.map (·.1) = ks ∧ Rs W.dk P ds (kvs.map (·.2)) := by
  rcases h with h | ⟨a, o, h1, h2, h3, h⟩
  · simp only [R] at h
    obtain ⟨a, xs, h1, h2, h3⟩ := h
    exact ⟨a, xs, h1, hp.sub _ _ h2, h3⟩
  · obtain ⟨xs, rfl, h4⟩ := h
    exact ⟨a, xs, h1, h2, h4⟩
/-- the end of a value that nothing new bears -/
theorem Res.same (hp : HP W P H) (r : R W.dk P d v) : Res W 0 P H d v P H emp := .of (.refl hp) r
theorem Res.tup (hp : HP W P H) {a : Addr} {xs : List V} {ds : List D} (na : H a = none) (r : Rs W.dk P ds xs) : Res W 0 P H (.tup ds) (.ref a) (upd P a (.tup xs)) (upd H a (.tup xs)) emp := by
  have s := Stp.lay hp (.tup xs) na
  refine .of s ?_
  simp only [R]
  exact ⟨a, xs, rfl, upd_same, Rs.mono s.up _ _ r⟩
theorem Res.lst (hp : HP W P H) {a : Addr} {xs : List V} {ds : List D} (na : H a = none) (r : Rs W.dk P ds xs) : Res W 1 P H (.lst ds) (.ref a) P (upd H a (.lst xs)) (one a (.lst xs)) := Res.lay hp na ⟨xs, rfl, r⟩
theorem atI_map {ds : List D} {xs : List V} (r : Rs W.dk P ds xs) {i : Int} {d : D} (h : atI ds i = some d) : ∃ v, atI xs i = some v ∧ R W.dk P d v := by
  unfold atI at h ⊢
  rw [← r.len]
  cases e : ixN ds.length i with
  | none => rw [e] at h; cases h
  | some j =>
    rw [e] at h
    exact r.get h
end

/-! ### two-place operators -/
def OpS (X : Cx) (W : Wd) (f : Value → Value → Sem Value) (n : Nat) (wb : D → D → (D → Prop) → Prop) : Prop := ∃ r : R2, OpR X f r ∧
  ∀ (x y : D) (vx vy : V) (P H : Hp) (post : D → Prop) (Q : VK), HP W P H → RB W P H x vx → RB W P H y vy → wb x y post → (∀ d v P' H' F, post d → Res W n P H d v P' H' F → Q v H') → r vx vy H Q
theorem OpR.or {X : Cx} {f : Value → Value → Sem Value} {r q : R2} (h : OpR X f r) (k : OpR X f q) : OpR X f (fun x y H Q => r x y H Q ∨ q x y H Q) :=
  fun pins s σ H x y v u Q I rx ry z => z.elim (h pins s σ H x y v u Q I rx ry) (k pins s σ H x y v u Q I rx ry)

def wBin (o : Operator) (x y : D) (post : D → Prop) : Prop := match o, x, y with
  | .Add, .int i, .int j => post (.int (i + j))
  | .Add, .tup xs, .tup ys => xs.length + ys.length ≤ sizeLine ∧ post (.tup (xs ++ ys))
  | .Add, .str i, .str j => i.length + j.length ≤ sizeLine ∧ post (.str (i ++ j))
  | .Sub, .int i, .int j => post (.int (i - j))
  | .Mult, .int i, .int j => CMul i j ∧ post (.int (i * j))
  | .Mult, .tup xs, .int k => xs ≠ [] ∧ 2 ≤ k ∧ k ≤ 1000 ∧ xs.length ≤ 1000 ∧ post (.tup (List.replicate k.toNat xs).flatten)
  | .FloorDiv, .int i, .int j => CDiv i j ∧ post (.int (i / j))
  | .Mod, .int i, .int j => 0 < j ∧ post (.int (i % j))
  | .Pow, .int i, .int j => CPow i j ∧ post (.int (i ^ j.toNat))
  | .LShift, .int i, .int j => CPow i j ∧ post (.int (i * 2 ^ j.toNat))
  | .RShift, .int i, .int j => 0 ≤ j ∧ post (.int (i / 2 ^ j.toNat))
  | .BitAnd, .int i, .int j => post (.int (Builtin.bitAnd i j))
  | _, _, _ => False
def wBinL (o : Operator) (x y : D) (post : D → Prop) : Prop := match o, x, y with
  | .Add, .lst xs, .lst ys => xs.length + ys.length ≤ sizeLine ∧ post (.lst (xs ++ ys))
  | .Mult, .lst xs, .int k => -(2 ^ 63) ≤ k ∧ k < 2 ^ 63 ∧ xs.length * k.toNat ≤ sizeLine ∧ post (.lst (List.replicate k.toNat xs).flatten)
  | _, _, _ => False

section
variable {X : Cx} {W : Wd}
theorem op_i0 {f : Value → Value → Sem Value} {g : Int → Int → V} {gd : Int → Int → D} (h : OpR X f (rI0 g)) (hg : ∀ (P : Hp) i j, R W.dk P (gd i j) (g i j)) {wb : D → D → (D → Prop) → Prop}
    (hw : ∀ x y post, wb x y post → ∃ i j, x = .int i ∧ y = .int j ∧ post (gd i j)) : OpS X W f 0 wb := by
  refine ⟨_, h, fun x y vx vy P H post Q hp rx ry hb q => ?_⟩
  obtain ⟨i, j, rfl, rfl, z⟩ := hw x y post hb
  exact ⟨i, j, rx.int, ry.int, q _ _ _ _ _ z (.same hp (hg P i j))⟩
theorem op_i {f : Value → Value → Sem Value} {C : Int → Int → Prop} {g : Int → Int → V} {gd : Int → Int → D} (h : OpR X f (rI C g)) (hg : ∀ (P : Hp) i j, R W.dk P (gd i j) (g i j)) {wb : D → D → (D → Prop) → Prop}
    (hw : ∀ x y post, wb x y post → ∃ i j, x = .int i ∧ y = .int j ∧ C i j ∧ post (gd i j)) : OpS X W f 0 wb := by
  refine ⟨_, h, fun x y vx vy P H post Q hp rx ry hb q => ?_⟩
  obtain ⟨i, j, rfl, rfl, c, z⟩ := hw x y post hb
  exact ⟨i, j, rx.int, ry.int, c, q _ _ _ _ _ z (.same hp (hg P i j))⟩
theorem rint {dk : Addr} (P : Hp) (i : Int) : R dk P (.int i) (.int i) := by simp only [R]
theorem rbl {dk : Addr} (P : Hp) (i : Bool) : R dk P (.bl i) (.bl i) := by simp only [R]
theorem rstr {dk : Addr} (P : Hp) (i : Str) : R dk P (.str i) (.str i) := by simp only [R]
theorem rnon {dk : Addr} (P : Hp) : R dk P .non .non := by simp only [R]

theorem op_add_S : OpS X W (binaryOp .Add) 0 (wBin .Add) := by
  refine ⟨_, (OpR.or op_add (OpR.or op_catA op_add_str)), fun x y vx vy P H post Q hp rx ry hb q => ?_⟩
  cases x with
  | int i =>
    cases y with
    | int j => exact .inl ⟨i, j, rx.int, ry.int, q _ _ _ _ _ hb (.same hp (rint P _))⟩
    | _ => exact hb.elim
  | str i =>
    cases y with
    | str j => exact .inr (.inr ⟨i, j, rx.str, ry.str, hb.1, q _ _ _ _ _ hb.2 (.same hp (rstr P _))⟩)
    | _ => exact hb.elim
  | tup xs =>
    cases y with
    | tup ys =>
      obtain ⟨a, us, rfl, h1, r1⟩ := rx.tup
      obtain ⟨b, ws, rfl, h2, r2⟩ := ry.tup
      refine .inr (.inl ⟨a, b, us, ws, rfl, rfl, SqT.of (hp.sub _ _ h1), SqT.of (hp.sub _ _ h2), by rw [← r1.len, ← r2.len]; exact hb.1, fun e => ?_, fun _ e => ?_, fun _ _ p np => ?_⟩)
      · subst e
        refine q _ _ _ _ _ hb.2 (.same hp ?_)
        have e0 : xs = [] := List.eq_nil_of_length_eq_zero r1.len
        subst e0
        simp only [R]
        exact ⟨b, ws, rfl, h2, r2⟩
      · subst e
        refine q _ _ _ _ _ hb.2 (.same hp ?_)
        have e0 : ys = [] := List.eq_nil_of_length_eq_zero r2.len
        subst e0
        rw [List.append_nil]
        simp only [R]
        exact ⟨a, us, rfl, h1, r1⟩
      · exact q _ _ _ _ _ hb.2 (.tup hp np (r1.app r2))
    | _ => exact hb.elim
  | _ => exact hb.elim
theorem op_mul_S : OpS X W (binaryOp .Mult) 0 (wBin .Mult) := by
  refine ⟨_, (OpR.or op_mul op_repT), fun x y vx vy P H post Q hp rx ry hb q => ?_⟩
  cases x with
  | int i =>
    cases y with
    | int j => exact .inl ⟨i, j, rx.int, ry.int, hb.1, q _ _ _ _ _ hb.2 (.same hp (rint P _))⟩
    | _ => exact hb.elim
  | tup xs =>
    cases y with
    | int k =>
      obtain ⟨a, us, rfl, h1, r1⟩ := rx.tup
      obtain ⟨b1, b2, b3, b4, b5⟩ := hb
      refine .inr ⟨a, k, us, rfl, ry.int, SqT.of (hp.sub _ _ h1), fun e => b1 ?_, b2, b3, by rw [← r1.len]; exact b4, fun p np => ?_⟩
      · subst e; exact List.eq_nil_of_length_eq_zero r1.len
      · exact q _ _ _ _ _ b5 (.tup hp np (Rs.iff.mpr (pr_rep (Rs.iff.mp r1) _)))
    | _ => exact hb.elim
  | _ => exact hb.elim
/-- the operators that are served, all others are refused by wBin -/
theorem bin_S (o : Operator) (h : (match o with | .MatMult | .Div | .BitOr | .BitXor => false | _ => true) = true) : OpS X W (binaryOp o) 0 (wBin o) := by
  cases o with
  | Add => exact op_add_S
  | Mult => exact op_mul_S
  | Sub => exact op_i0 op_sub (gd := fun i j => .int (i - j)) (fun P i j => rint P _) fun x y post z => by cases x <;> cases y <;> first | exact ⟨_, _, rfl, rfl, z⟩ | exact z.elim
  | FloorDiv => exact op_i op_fdiv (gd := fun i j => .int (i / j)) (fun P i j => rint P _) fun x y post z => by cases x <;> cases y <;> first | exact ⟨_, _, rfl, rfl, z.1, z.2⟩ | exact z.elim
  | Mod => exact op_i op_mod (gd := fun i j => .int (i % j)) (fun P i j => rint P _) fun x y post z => by cases x <;> cases y <;> first | exact ⟨_, _, rfl, rfl, z.1, z.2⟩ | exact z.elim
  | Pow => exact op_i op_pow (gd := fun i j => .int (i ^ j.toNat)) (fun P i j => rint P _) fun x y post z => by cases x <;> cases y <;> first | exact ⟨_, _, rfl, rfl, z.1, z.2⟩ | exact z.elim
  | LShift => exact op_i op_shl (gd := fun i j => .int (i * 2 ^ j.toNat)) (fun P i j => rint P _) fun x y post z => by cases x <;> cases y <;> first | exact ⟨_, _, rfl, rfl, z.1, z.2⟩ | exact z.elim
  | RShift => exact op_i op_shr (gd := fun i j => .int (i / 2 ^ j.toNat)) (fun P i j => rint P _) fun x y post z => by cases x <;> cases y <;> first | exact ⟨_, _, rfl, rfl, z.1, z.2⟩ | exact z.elim
  | BitAnd => exact op_i0 op_and (gd := fun i j => .int (Builtin.bitAnd i j)) (fun P i j => rint P _) fun x y post z => by cases x <;> cases y <;> first | exact ⟨_, _, rfl, rfl, z⟩ | exact z.elim
  | _ => cases h
theorem binL_S (o : Operator) (h : (match o with | .Add | .Mult => true | _ => false) = true) : OpS X W (binaryOp o) 1 (wBinL o) := by
  cases o with
  | Add =>
    refine ⟨_, op_cat, fun x y vx vy P H post Q hp rx ry hb q => ?_⟩
    cases x with
    | lst xs =>
      cases y with
      | lst ys =>
        obtain ⟨a, us, rfl, h1, r1⟩ := rx.lst hp
        obtain ⟨b, ws, rfl, h2, r2⟩ := ry.lst hp
        exact ⟨a, b, us, ws, rfl, rfl, h1, h2, by rw [← r1.len, ← r2.len]; exact hb.1, fun p np => q _ _ _ _ _ hb.2 (.lst hp np (r1.app r2))⟩
      | _ => exact hb.elim
    | _ => exact hb.elim
  | Mult =>
    refine ⟨_, op_rep, fun x y vx vy P H post Q hp rx ry hb q => ?_⟩
    cases x with
    | lst xs =>
      cases y with
      | int k =>
        obtain ⟨a, us, rfl, h1, r1⟩ := rx.lst hp
        exact ⟨a, k, us, rfl, ry.int, h1, hb.1, hb.2.1, by rw [← r1.len]; exact hb.2.2.1, fun p np => q _ _ _ _ _ hb.2.2.2 (.lst hp np (Rs.iff.mpr (pr_rep (Rs.iff.mp r1) _)))⟩
      | _ => exact hb.elim
    | _ => exact hb.elim
  | _ => cases h
end
end VI
set_option Elab.async false
set_option linter.all false
set_option maxRecDepth 100000
set_option maxHeartbeats 2000000
/-! VD: data as a whole: ==, in, repr, index -/
namespace VI
open PySem PySem.Spec PyProof.Rows L2

mutual
def py : D → PyData
  | .non => .none
  | .bl b => .bool b
  | .int i => .int i
  | .str x => .str x
  | .tup ds => .tuple (pys ds)
  | .lst ds => .list (pys ds)
  | .dT _ _ => .dict []
  | .dK _ _ => .dict []
  | .deck => .dict []
def pys : List D → List PyData
  | [] => []
  | d :: ds => py d :: pys ds
end
theorem pys_map : ∀ ds : List D, pys ds = ds.map py
  | [] => rfl
  | d :: ds => by show py d :: pys ds = py d :: ds.map py; rw [pys_map ds]
/-- data of a bounded size: at most so many items at each depth, short leaves -/
def Bd : List Nat → D → Prop
  | _, .non => True
  | _, .bl _ => True
  | _, .int i => i.natAbs < 10 ^ 12
  | _, .str x => PyData.strOk x = true ∧ x.length ≤ 63
  | m :: ms, .tup ds => ds.length ≤ m ∧ ∀ d ∈ ds, Bd ms d
  | m :: ms, .lst ds => ds.length ≤ m ∧ ∀ d ∈ ds, Bd ms d
  | [], .tup ds => ds = []
  | [], .lst ds => ds = []
  | _, _ => False
def Wg : List Nat → Nat
  | [] => 63
  | m :: ms => m * (Wg ms + 1) + 63
theorem wg_ge : ∀ ms, 63 ≤ Wg ms
  | [] => Nat.le_refl _
  | _ :: _ => Nat.le_add_left _ _
theorem log_small {n : Nat} (h : n < 10 ^ 12) : n.log2 < 62 := by
  by_cases h0 : n = 0
  · subst h0; decide
  · exact (Nat.log2_lt h0).mpr (Nat.lt_trans h (by decide))
/-- the facts that the library asks of data -/
structure Fitd (ms : List Nat) (d : PyData) : Prop where
  lay : d.canLay0 = true
  dep : d.depth ≤ ms.length + 1
  wgt : d.weight ≤ Wg ms
  ish : d.intsShort 13 = true
  sho : d.showable = true

theorem fit_all {ms : List Nat} : ∀ {ds : List PyData} {m : Nat}, ds.length ≤ m → (∀ d ∈ ds, Fitd ms d) → PyData.canLayAll0 ds = true ∧ PyData.depthAll ds ≤ ms.length + 1 ∧ PyData.weightAll ds ≤ m * (Wg ms + 1) ∧ PyData.intsShortAll 13 ds = true ∧ PyData.showableAll ds = true
  | [], m, _, _ => ⟨rfl, Nat.zero_le _, Nat.zero_le _, rfl, rfl⟩
  | d :: ds, 0, h, _ => absurd h (by simp)
  | d :: ds, m + 1, h, f => by
    obtain ⟨a1, a2, a3, a4, a5⟩ := fit_all (ds := ds) (m := m) (by simpa using h) fun e he => f e (List.mem_cons_of_mem _ he)
    have q := f d List.mem_cons_self
    refine ⟨?_, ?_, ?_, ?_, ?_⟩
    · simp only [PyData.canLayAll0, q.lay, a1, Bool.and_self]
    · simp only [PyData.depthAll]; exact Nat.max_le.mpr ⟨q.dep, a2⟩
    · simp only [PyData.weightAll]
      have := q.wgt
      rw [Nat.succ_mul]; omega
    · simp only [PyData.intsShortAll, q.ish, a4, Bool.and_self]
    · show (d.showable && PyData.showableAll ds) = true
      rw [q.sho, a5]; rfl
theorem Bd.fit : ∀ (ms : List Nat) (d : D), Bd ms d → Fitd ms (py d)
  | ms, .non, _ => ⟨rfl, Nat.zero_le _, Nat.zero_le _, rfl, rfl⟩
  | ms, .bl _, _ => ⟨rfl, Nat.zero_le _, Nat.zero_le _, rfl, rfl⟩
  | ms, .int i, h => by
    have h : i.natAbs < 10 ^ 12 := by cases ms <;> simpa only [Bd] using h
    refine ⟨rfl, Nat.zero_le _, ?_, ?_, decide_eq_true (Nat.lt_trans (log_small h) (by decide))⟩
    · show (if i == 0 then 0 else i.natAbs.log2 + 1) ≤ _
      have := log_small h
      have := wg_ge ms
      split <;> omega
    · show PyData.intsShort 13 (.int i) = true
      have := PyData.shown_int_le h
      simpa [PyData.intsShort] using this
  | ms, .str x, h => by
    have h : PyData.strOk x = true ∧ x.length ≤ 63 := by cases ms <;> simpa only [Bd] using h
    exact ⟨h.1, Nat.zero_le _, Nat.le_trans h.2 (wg_ge ms), rfl, rfl⟩
  | [], .tup ds, h => by
    have h : ds = [] := by simpa only [Bd] using h
    subst h
    exact ⟨rfl, by decide, by decide, rfl, rfl⟩
  | [], .lst ds, h => by
    have h : ds = [] := by simpa only [Bd] using h
    subst h
    exact ⟨rfl, by decide, by decide, rfl, rfl⟩
  | m :: ms, .tup ds, h => by
    have h : ds.length ≤ m ∧ ∀ d ∈ ds, Bd ms d := by simpa only [Bd] using h
    obtain ⟨a1, a2, a3, a4, a5⟩ := fit_all (ds := pys ds) (m := m) (ms := ms) (by rw [pys_map, List.length_map]; exact h.1) fun e he => by
      rw [pys_map] at he
      obtain ⟨d, hd, rfl⟩ := List.mem_map.mp he
      exact Bd.fit ms d (h.2 d hd)
    exact ⟨a1, by show PyData.depthAll (pys ds) + 1 ≤ _; exact Nat.succ_le_succ a2, by show PyData.weightAll (pys ds) ≤ _; unfold Wg; omega, a4, a5⟩
  | m :: ms, .lst ds, h => by
    have h : ds.length ≤ m ∧ ∀ d ∈ ds, Bd ms d := by simpa only [Bd] using h
    obtain ⟨a1, a2, a3, a4, a5⟩ := fit_all (ds := pys ds) (m := m) (ms := ms) (by rw [pys_map, List.length_map]; exact h.1) fun e he => by
      rw [pys_map] at he
      obtain ⟨d, hd, rfl⟩ := List.mem_map.mp he
      exact Bd.fit ms d (h.2 d hd)
    exact ⟨a1, by show PyData.depthAll (pys ds) + 1 ≤ _; exact Nat.succ_le_succ a2, by show PyData.weightAll (pys ds) ≤ _; unfold Wg; omega, a4, a5⟩
  | [], .dT _ _, h => by simp only [Bd] at h
  | _ :: _, .dT _ _, h => by simp only [Bd] at h
  | [], .dK _ _, h => by simp only [Bd] at h
  | _ :: _, .dK _ _, h => by simp only [Bd] at h
  | [], .deck, h => by simp only [Bd] at h
  | _ :: _, .deck, h => by simp only [Bd] at h
/-- data that fits -/
def Fit (d : D) : Prop := ∃ ms, Bd ms d ∧ ms.length ≤ 60 ∧ Wg ms ≤ 2 ^ 20
theorem Fit.shp {d : D} (h : Fit d) : SeqAt.shaped (py d) = true := by
  obtain ⟨ms, b, l, _⟩ := h
  have f := b.fit
  unfold SeqAt.shaped
  rw [f.lay, Bool.true_and]
  exact decide_eq_true (Nat.le_trans f.dep (by omega))
theorem Fit.shown {d : D} (h : Fit d) : (py d).shown.length ≤ sizeLine := by
  obtain ⟨ms, b, l, w⟩ := h
  have f := b.fit
  refine PyData.shown_fits_of_layable0 (B := 13) (by decide) (by decide) ?_ f.ish
  unfold PyData.layable0
  rw [f.lay, decide_eq_true (Nat.le_trans f.dep (by omega)), decide_eq_true (Nat.le_trans f.wgt w)]
  rfl

theorem dpall_of {K : PySem.W.Frag} {H : Hp} {F : D → V → Prop} {ds : List D} {xs : List V} (r : Paired F ds xs) (h : ∀ d ∈ ds, ∀ v, F d v → Dp K H v (py d)) : DpAll K H xs (pys ds) := by
  induction r with
  | nil => exact .nil
  | cons q t ih => exact .cons (h _ List.mem_cons_self _ q) (ih fun d hd => h d (List.mem_cons_of_mem _ hd))
theorem R.dp {K : PySem.W.Frag} {dk : Addr} {P H : Hp} (e : Ex P H) : ∀ (ms : List Nat) (d : D) (v : V), Bd ms d → R dk P d v → Dp K H v (py d)
  | _, .non, v, _, r => by have r : v = .non := by simpa only [R] using r
                           subst r; exact .non
  | _, .bl b, v, _, r => by have r : v = .bl b := by simpa only [R] using r
                            subst r; exact .bl b
  | _, .int b, v, _, r => by have r : v = .int b := by simpa only [R] using r
                             subst r; exact .int b
  | _, .str b, v, _, r => by have r : v = .str b := by simpa only [R] using r
                             subst r; exact .str b
  | [], .tup ds, v, h, r => by
    have h : ds = [] := by simpa only [Bd] using h
    subst h
    simp only [R] at r
    obtain ⟨a, xs, rfl, h2, r⟩ := r
    exact .tup (SqT.of (e _ _ h2)) (dpall_of (Rs.iff.mp r) fun d hd => by cases hd)
  | [], .lst ds, v, h, r => by
    have h : ds = [] := by simpa only [Bd] using h
    subst h
    simp only [R] at r
    obtain ⟨a, xs, rfl, h2, r⟩ := r
    exact .lst (SqL.of (e _ _ h2)) (dpall_of (Rs.iff.mp r) fun d hd => by cases hd)
  | m :: ms, .tup ds, v, h, r => by
    have h : ds.length ≤ m ∧ ∀ d ∈ ds, Bd ms d := by simpa only [Bd] using h
    simp only [R] at r
    obtain ⟨a, xs, rfl, h2, r⟩ := r
    exact .tup (SqT.of (e _ _ h2)) (dpall_of (Rs.iff.mp r) fun d hd u q => R.dp e ms d u (h.2 d hd) q)
  | m :: ms, .lst ds, v, h, r => by
    have h : ds.length ≤ m ∧ ∀ d ∈ ds, Bd ms d := by simpa only [Bd] using h
    simp only [R] at r
    obtain ⟨a, xs, rfl, h2, r⟩ := r
    exact .lst (SqL.of (e _ _ h2)) (dpall_of (Rs.iff.mp r) fun d hd u q => R.dp e ms d u (h.2 d hd) q)
  | [], .dT _ _, _, h, _ => by simp only [Bd] at h
  | _ :: _, .dT _ _, _, h, _ => by simp only [Bd] at h
  | [], .dK _ _, _, h, _ => by simp only [Bd] at h
  | _ :: _, .dK _ _, _, h, _ => by simp only [Bd] at h
  | [], .deck, _, h, _ => by simp only [Bd] at h
  | _ :: _, .deck, _, h, _ => by simp only [Bd] at h
theorem RB.dp {K : PySem.W.Frag} {W : Wd} {P H : Hp} {d : D} {v : V} (hp : HP W P H) (f : Fit d) (r : RB W P H d v) : Dp K H v (py d) := by
  obtain ⟨ms, b, _⟩ := f
  rcases r with r | ⟨a, o, rfl, h2, _, r⟩
  · exact R.dp hp.sub ms d v b r
  · cases d with
    | lst ds =>
      obtain ⟨xs, rfl, r⟩ := r
      cases ms with
      | nil =>
        have b : ds = [] := by simpa only [Bd] using b
        subst b
        exact .lst (SqL.of h2) (dpall_of (Rs.iff.mp r) fun d hd => by cases hd)
      | cons m ms =>
        have b : ds.length ≤ m ∧ ∀ d ∈ ds, Bd ms d := by simpa only [Bd] using b
        exact .lst (SqL.of h2) (dpall_of (Rs.iff.mp r) fun d hd u q => R.dp hp.sub ms d u (b.2 d hd) q)
    | dT => cases ms <;> simp only [Bd] at b
    | dK => cases ms <;> simp only [Bd] at b
    | _ => exact r.elim

/-! ### comparisons -/
def eqD (x y : D) : Bool := PyData.eqv (py x) (py y)
/-- a key of a dict: ints and texts, or tuples of these -/
def keyK : D → Option Key
  | .int i => some (.inl i)
  | .str x => some (.inr x)
  | _ => none
def keysK : List D → Option (List Key)
  | [] => some []
  | d :: ds => match keyK d, keysK ds with
    | some k, some ks => some (k :: ks)
    | _, _ => none
def keyT : D → Option (List Key)
  | .tup ds => keysK ds
  | _ => none
def getD_ {κ : Type} [DecidableEq κ] : List κ → List D → κ → Option D
  | k :: ks, v :: vs, x => if k = x then some v else getD_ ks vs x
  | _, _, _ => none
def wIn (x y : D) (neg : Bool) (post : D → Prop) : Prop := match y with
  | .lst ds => Fit x ∧ Fit y ∧ post (.bl (xor neg (ds.any fun z => eqD z x)))
  | .tup ds => Fit x ∧ Fit y ∧ post (.bl (xor neg (ds.any fun z => eqD z x)))
  | .dT ks vs => ∃ k, keyT x = some k ∧ post (.bl (xor neg (getD_ ks vs k).isSome))
  | .dK ks vs => ∃ k, keyK x = some k ∧ post (.bl (xor neg (getD_ ks vs k).isSome))
  | _ => False
def wCmp (o : CmpOp) (x y : D) (post : D → Prop) : Prop := match o with
  | .Eq => (match x, y with
    | .int i, .int j => post (.bl (decide (i = j)))
    | .str i, .str j => post (.bl (decide (i = j)))
    | x, y => Fit x ∧ Fit y ∧ post (.bl (eqD x y)))
  | .NotEq => (match x, y with
    | .int i, .int j => post (.bl (!decide (i = j)))
    | .str i, .str j => post (.bl (!decide (i = j)))
    | x, y => Fit x ∧ Fit y ∧ post (.bl (!eqD x y)))
  | .Lt => (match x, y with | .int i, .int j => post (.bl (decide (i < j))) | _, _ => False)
  | .LtE => (match x, y with | .int i, .int j => post (.bl (decide (i ≤ j))) | _, _ => False)
  | .Gt => (match x, y with | .int i, .int j => post (.bl (decide (j < i))) | _, _ => False)
  | .GtE => (match x, y with | .int i, .int j => post (.bl (decide (j ≤ i))) | _, _ => False)
  | .In => wIn x y false post
  | .NotIn => wIn x y true post
  | .Is => (match x, y with
    | .bl a, .bl b => post (.bl (decide (a = b)))
    | .non, .non => post (.bl true)
    | .int _, .non | .bl _, .non | .str _, .non | .tup _, .non | .lst _, .non => post (.bl false)
    | _, _ => False)
  | .IsNot => (match x, y with
    | .bl a, .bl b => post (.bl (!decide (a = b)))
    | .non, .non => post (.bl false)
    | .int _, .non | .bl _, .non | .str _, .non | .tup _, .non | .lst _, .non => post (.bl true)
    | _, _ => False)
end VI
set_option Elab.async false
set_option linter.all false
set_option maxRecDepth 100000
set_option maxHeartbeats 2000000
/-! VE: comparisons, subscripts, calls of built-ins: each on data -/
namespace VI
open PySem PySem.Spec PyProof.Rows L2
theorem keyK_r {dk : Addr} {P : Hp} {d : D} {v : V} {k : Key} (r : R dk P d v) (h : keyK d = some k) : v = kV k := by
  cases d with
  | int i => cases h; simp only [R] at r; exact r
  | str i => cases h; simp only [R] at r; exact r
  | _ => cases h
theorem keysK_r {dk : Addr} {P : Hp} : ∀ {ds : List D} {xs : List V} {ks : List Key}, Rs dk P ds xs → keysK ds = some ks → xs = ks.map kV
  | [], xs, ks, r, h => by
    cases h
    simp only [Rs] at r
    exact r
  | d :: ds, xs, ks, r, h => by
    simp only [Rs] at r
    obtain ⟨v, q, rfl, r1, r2⟩ := r
    unfold keysK at h
    cases e1 : keyK d with
    | none => rw [e1] at h; cases h
    | some k =>
      cases e2 : keysK ds with
      | none => rw [e1, e2] at h; cases h
      | some l =>
        rw [e1, e2] at h
        cases h
        rw [List.map_cons, keyK_r r1 e1, keysK_r r2 e2]
theorem keyT_r {dk : Addr} {P : Hp} {d : D} {v : V} {k : List Key} (r : R dk P d v) (h : keyT d = some k) : ∃ b, v = .ref b ∧ P b = some (.tup (k.map kV)) := by
  cases d with
  | tup ds =>
    simp only [R] at r
    obtain ⟨a, xs, rfl, h1, r⟩ := r
    rw [keysK_r r h] at h1
    exact ⟨a, rfl, h1⟩
  | _ => cases h
theorem get_some {κ : Type} [DecidableEq κ] {dk : Addr} {P : Hp} : ∀ {kvs : List (κ × V)} {ds : List D} {k : κ} {d : D}, Rs dk P ds (kvs.map (·.2)) → getD_ (kvs.map (·.1)) ds k = some d → ∃ v, valV kvs k = some v ∧ R dk P d v
  | [], _, _, _, _, h => by simp [getD_] at h
  | p :: kvs, [], _, _, _, h => by simp [getD_] at h
  | p :: kvs, d :: ds, k, e, r, h => by
    simp only [Rs, List.map_cons] at r
    obtain ⟨v, q, e1, r1, r2⟩ := r
    cases e1
    have h : (if p.1 = k then some d else getD_ (kvs.map (·.1)) ds k) = some e := h
    by_cases hk : p.1 = k
    · rw [if_pos hk] at h
      cases h
      exact ⟨p.2, valV_pos hk, r1⟩
    · rw [if_neg hk] at h
      obtain ⟨v, h1, h2⟩ := get_some r2 h
      exact ⟨v, by rw [valV_neg hk]; exact h1, h2⟩
theorem get_none {κ : Type} [DecidableEq κ] {dk : Addr} {P : Hp} : ∀ {kvs : List (κ × V)} {ds : List D} {k : κ}, Rs dk P ds (kvs.map (·.2)) → getD_ (kvs.map (·.1)) ds k = none → valV kvs k = none
  | [], _, _, _, h => rfl
  | p :: kvs, [], _, r, h => by simp only [Rs, List.map_cons] at r; cases r
  | p :: kvs, d :: ds, k, r, h => by
    simp only [Rs, List.map_cons] at r
    obtain ⟨v, q, e1, r1, r2⟩ := r
    cases e1
    have h : (if p.1 = k then some d else getD_ (kvs.map (·.1)) ds k) = none := h
    by_cases hk : p.1 = k
    · rw [if_pos hk] at h; cases h
    · rw [if_neg hk] at h
      rw [valV_neg hk]; exact get_none r2 h
theorem get_is {κ : Type} [DecidableEq κ] {dk : Addr} {P : Hp} {kvs : List (κ × V)} {ds : List D} {k : κ} (r : Rs dk P ds (kvs.map (·.2))) : (valV kvs k).isSome = (getD_ (kvs.map (·.1)) ds k).isSome := by
  cases e : getD_ (kvs.map (·.1)) ds k with
  | none => rw [get_none r e]; rfl
  | some d => obtain ⟨v, h, _⟩ := get_some r e; rw [h]; rfl
theorem RB.key {W : Wd} {P H : Hp} {d : D} {v : V} {k : Key} (r : RB W P H d v) (h : keyK d = some k) : v = kV k := by
  rcases r with r | ⟨a, o, _, _, _, r⟩
  · exact keyK_r r h
  · cases d <;> first | exact r.elim | cases h
theorem RB.keyT {W : Wd} {P H : Hp} {d : D} {v : V} {k : List Key} (r : RB W P H d v) (h : keyT d = some k) : ∃ b, v = .ref b ∧ P b = some (.tup (k.map kV)) := by
  rcases r with r | ⟨a, o, _, _, _, r⟩
  · exact keyT_r r h
  · cases d <;> first | exact r.elim | cases h
theorem any_map {ds : List D} {x : D} : ((pys ds).any fun z => PyData.eqv z (py x)) = ds.any fun z => eqD z x := by rw [pys_map, List.any_map]; rfl

section
variable {X : Cx} {W : Wd}
theorem RB.rd {P H : Hp} {pins : List (Addr × Obj)} {σ : L2.St} {s : Shared} {d : D} {v : V} {u : Value} (hp : HP W P H) (I : Inv X pins σ H s) (f : Fit d) (r : RB W P H d v) (rv : RelV v u) : ∃ as, Reads s.heap u (py d) as := Dp.reads I _ _ _ (r.dp hp f) rv
theorem op_in_t (hu : X.A.units + 65 < cLine) : OpR X (compareOp .In) (fun x y H Q => ∃ d ds, Dp X.K H x d ∧ Dp X.K H y (.tuple ds) ∧ SeqAt.shaped d = true ∧ SeqAt.shaped (.tuple ds) = true ∧ Q (.bl (ds.any fun z => PyData.eqv z d)) H) := by
  intro pins s σ H x y v u Q I rx ry h
  obtain ⟨d, ds, hd, he, sd, se, q⟩ := h
  obtain ⟨as, r1⟩ := Dp.reads I d x v hd rx
  obtain ⟨bs, r2⟩ := Dp.reads I (.tuple ds) y u he ry
  exact SeqAt.in_tuple_reads r2 r1 (SeqAt.canLay_of_shaped se) (SeqAt.canLay_of_shaped sd) (room_in_shaped sd hu) ⟨.bl _, H, I, rfl, q⟩
theorem op_nin_t (hu : X.A.units + 65 < cLine) : OpR X (compareOp .NotIn) (fun x y H Q => ∃ d ds, Dp X.K H x d ∧ Dp X.K H y (.tuple ds) ∧ SeqAt.shaped d = true ∧ SeqAt.shaped (.tuple ds) = true ∧ Q (.bl (!ds.any fun z => PyData.eqv z d)) H) := by
  intro pins s σ H x y v u Q I rx ry h
  obtain ⟨d, ds, hd, he, sd, se, q⟩ := h
  obtain ⟨as, r1⟩ := Dp.reads I d x v hd rx
  obtain ⟨bs, r2⟩ := Dp.reads I (.tuple ds) y u he ry
  exact SeqAt.notIn_tuple_reads r2 r1 (SeqAt.canLay_of_shaped se) (SeqAt.canLay_of_shaped sd) (room_in_shaped sd hu) ⟨.bl _, H, I, rfl, q⟩
theorem op_in_d (hu : X.A.units + 1 < cLine) : OpR X (compareOp .In) (fun x y H Q => ∃ a o, y = .ref a ∧ DGet H a x o ∧ Q (.bl o.isSome) H) := by
  intro pins s σ H x y v u Q I rx ry h
  obtain ⟨a, o, rfl, g, q⟩ := h
  cases ry
  exact d_in hu I g rx fun s' I' => ⟨.bl _, H, I', rfl, q⟩
theorem op_nin_d (hu : X.A.units + 1 < cLine) : OpR X (compareOp .NotIn) (fun x y H Q => ∃ a o, y = .ref a ∧ DGet H a x o ∧ Q (.bl (!o.isSome)) H) := by
  intro pins s σ H x y v u Q I rx ry h
  obtain ⟨a, o, rfl, g, q⟩ := h
  cases ry
  exact d_notIn hu I g rx fun s' I' => ⟨.bl _, H, I', rfl, q⟩
theorem dget_T {P H : Hp} {x y : D} {vx vy : V} {ks : List (List Key)} {vs : List D} {k : List Key} (hp : HP W P H) (rx : RB W P H x vx) (ry : RB W P H (.dT ks vs) vy) (hk : keyT x = some k) :
    ∃ a kvs, vy = .ref a ∧ H a = some (.dT kvs) ∧ kvs.map (·.1) = ks ∧ Rs W.dk P vs (kvs.map (·.2)) ∧ DGet H a vx (valV kvs k) := by
  obtain ⟨a, kvs, rfl, h1, h2, r⟩ := ry.dT hp
  obtain ⟨b, rfl, hb⟩ := rx.keyT hk
  exact ⟨a, kvs, rfl, h1, h2, r, DGet.t h1 (hp.sub _ _ hb)⟩
theorem dget_K {P H : Hp} {x y : D} {vx vy : V} {ks : List Key} {vs : List D} {k : Key} (hp : HP W P H) (rx : RB W P H x vx) (ry : RB W P H (.dK ks vs) vy) (hk : keyK x = some k) :
    ∃ a kvs, vy = .ref a ∧ H a = some (.dK kvs) ∧ kvs.map (·.1) = ks ∧ Rs W.dk P vs (kvs.map (·.2)) ∧ DGet H a vx (valV kvs k) := by
  obtain ⟨a, kvs, rfl, h1, h2, r⟩ := ry.dK hp
  rw [rx.key hk]
  exact ⟨a, kvs, rfl, h1, h2, r, DGet.k h1⟩
theorem in_S (hu : X.A.units + 65 < cLine) : OpS X W (compareOp .In) 0 (fun x y => wIn x y false) := by
  refine ⟨_, OpR.or (op_inD hu) (OpR.or (op_in_t hu) (op_in_d (by omega))), fun x y vx vy P H post Q hp rx ry hb q => ?_⟩
  cases y with
  | lst ds =>
    obtain ⟨f1, f2, z⟩ := hb
    refine .inl ⟨_, pys ds, rx.dp hp f1, ry.dp hp f2, f1.shp, f2.shp, ?_⟩
    rw [any_map]
    exact q _ _ _ _ _ (by simpa using z) (.same hp (rbl P _))
  | tup ds =>
    obtain ⟨f1, f2, z⟩ := hb
    refine .inr (.inl ⟨_, pys ds, rx.dp hp f1, ry.dp hp f2, f1.shp, f2.shp, ?_⟩)
    rw [any_map]
    exact q _ _ _ _ _ (by simpa using z) (.same hp (rbl P _))
  | dT ks vs =>
    obtain ⟨k, hk, z⟩ := hb
    obtain ⟨a, kvs, rfl, h1, rfl, r, g⟩ := dget_T (y := x) hp rx ry hk
    refine .inr (.inr ⟨a, _, rfl, g, ?_⟩)
    rw [get_is r]
    exact q _ _ _ _ _ (by simpa using z) (.same hp (rbl P _))
  | dK ks vs =>
    obtain ⟨k, hk, z⟩ := hb
    obtain ⟨a, kvs, rfl, h1, rfl, r, g⟩ := dget_K (y := x) hp rx ry hk
    refine .inr (.inr ⟨a, _, rfl, g, ?_⟩)
    rw [get_is r]
    exact q _ _ _ _ _ (by simpa using z) (.same hp (rbl P _))
  | _ => exact hb.elim
theorem nin_S (hu : X.A.units + 65 < cLine) : OpS X W (compareOp .NotIn) 0 (fun x y => wIn x y true) := by
  refine ⟨_, OpR.or (op_notInD hu) (OpR.or (op_nin_t hu) (op_nin_d (by omega))), fun x y vx vy P H post Q hp rx ry hb q => ?_⟩
  cases y with
  | lst ds =>
    obtain ⟨f1, f2, z⟩ := hb
    refine .inl ⟨_, pys ds, rx.dp hp f1, ry.dp hp f2, f1.shp, f2.shp, ?_⟩
    rw [any_map]
    exact q _ _ _ _ _ (by simpa using z) (.same hp (rbl P _))
  | tup ds =>
    obtain ⟨f1, f2, z⟩ := hb
    refine .inr (.inl ⟨_, pys ds, rx.dp hp f1, ry.dp hp f2, f1.shp, f2.shp, ?_⟩)
    rw [any_map]
    exact q _ _ _ _ _ (by simpa using z) (.same hp (rbl P _))
  | dT ks vs =>
    obtain ⟨k, hk, z⟩ := hb
    obtain ⟨a, kvs, rfl, h1, rfl, r, g⟩ := dget_T (y := x) hp rx ry hk
    refine .inr (.inr ⟨a, _, rfl, g, ?_⟩)
    rw [get_is r]
    exact q _ _ _ _ _ (by simpa using z) (.same hp (rbl P _))
  | dK ks vs =>
    obtain ⟨k, hk, z⟩ := hb
    obtain ⟨a, kvs, rfl, h1, rfl, r, g⟩ := dget_K (y := x) hp rx ry hk
    refine .inr (.inr ⟨a, _, rfl, g, ?_⟩)
    rw [get_is r]
    exact q _ _ _ _ _ (by simpa using z) (.same hp (rbl P _))
  | _ => exact hb.elim
theorem eq_S (hu : X.A.units + 65 < cLine) : OpS X W (compareOp .Eq) 0 (wCmp .Eq) := by
  refine ⟨_, OpR.or op_eq (op_eqD (by omega)), fun x y vx vy P H post Q hp rx ry hb q => ?_⟩
  have gen : (Fit x ∧ Fit y ∧ post (.bl (eqD x y))) → (rEq vx vy H Q ∨ rEqD X.K vx vy H Q) := fun ⟨f1, f2, z⟩ =>
    .inr ⟨_, _, rx.dp hp f1, ry.dp hp f2, f1.shp, f2.shp, q _ _ _ _ _ z (.same hp (rbl P _))⟩
  cases x with
  | int i =>
    cases y with
    | int j =>
      rw [rx.int, ry.int]
      refine .inl ⟨rfl, q _ _ _ _ _ hb (.same hp ?_)⟩
      rw [show decide (V.int i = V.int j) = decide (i = j) from decide_eq_decide.mpr ⟨V.int.inj, congrArg _⟩]
      exact rbl P _
    | _ => exact gen hb
  | str i =>
    cases y with
    | str j =>
      rw [rx.str, ry.str]
      refine .inl ⟨rfl, q _ _ _ _ _ hb (.same hp ?_)⟩
      rw [show decide (V.str i = V.str j) = decide (i = j) from decide_eq_decide.mpr ⟨V.str.inj, congrArg _⟩]
      exact rbl P _
    | _ => exact gen hb
  | _ => exact gen hb
theorem ne_S (hu : X.A.units + 65 < cLine) : OpS X W (compareOp .NotEq) 0 (wCmp .NotEq) := by
  refine ⟨_, OpR.or op_ne (op_neD (by omega)), fun x y vx vy P H post Q hp rx ry hb q => ?_⟩
  have gen : (Fit x ∧ Fit y ∧ post (.bl (!eqD x y))) → (rNe vx vy H Q ∨ rNeD X.K vx vy H Q) := fun ⟨f1, f2, z⟩ =>
    .inr ⟨_, _, rx.dp hp f1, ry.dp hp f2, f1.shp, f2.shp, q _ _ _ _ _ z (.same hp (rbl P _))⟩
  cases x with
  | int i =>
    cases y with
    | int j =>
      rw [rx.int, ry.int]
      refine .inl ⟨rfl, q _ _ _ _ _ hb (.same hp ?_)⟩
      rw [show decide (V.int i = V.int j) = decide (i = j) from decide_eq_decide.mpr ⟨V.int.inj, congrArg _⟩]
      exact rbl P _
    | _ => exact gen hb
  | str i =>
    cases y with
    | str j =>
      rw [rx.str, ry.str]
      refine .inl ⟨rfl, q _ _ _ _ _ hb (.same hp ?_)⟩
      rw [show decide (V.str i = V.str j) = decide (i = j) from decide_eq_decide.mpr ⟨V.str.inj, congrArg _⟩]
      exact rbl P _
    | _ => exact gen hb
  | _ => exact gen hb
theorem is_S : OpS X W (compareOp .Is) 0 (wCmp .Is) := by
  refine ⟨_, OpR.or op_isN op_isBl, fun x y vx vy P H post Q hp rx ry hb q => ?_⟩
  cases y with
  | non =>
    refine .inl ⟨ry.non, ?_⟩
    cases x with
    | non => rw [rx.non]; exact q _ _ _ _ _ hb (.same hp (rbl P _))
    | int i => rw [rx.int]; exact q _ _ _ _ _ hb (.same hp (rbl P _))
    | bl i => rw [rx.bl]; exact q _ _ _ _ _ hb (.same hp (rbl P _))
    | str i => rw [rx.str]; exact q _ _ _ _ _ hb (.same hp (rbl P _))
    | tup i => obtain ⟨a, _, rfl, _⟩ := rx.tup; exact q _ _ _ _ _ hb (.same hp (rbl P _))
    | lst i => obtain ⟨a, _, rfl, _⟩ := rx.lst hp; exact q _ _ _ _ _ hb (.same hp (rbl P _))
    | _ => exact hb.elim
  | bl b =>
    cases x with
    | bl a => exact .inr ⟨a, b, rx.bl, ry.bl, q _ _ _ _ _ hb (.same hp (rbl P _))⟩
    | _ => exact hb.elim
  | _ => cases x <;> exact hb.elim
theorem nis_S : OpS X W (compareOp .IsNot) 0 (wCmp .IsNot) := by
  refine ⟨_, OpR.or op_notN op_notBl, fun x y vx vy P H post Q hp rx ry hb q => ?_⟩
  cases y with
  | non =>
    refine .inl ⟨ry.non, ?_⟩
    cases x with
    | non => rw [rx.non]; exact q _ _ _ _ _ hb (.same hp (rbl P _))
    | int i => rw [rx.int]; exact q _ _ _ _ _ hb (.same hp (rbl P _))
    | bl i => rw [rx.bl]; exact q _ _ _ _ _ hb (.same hp (rbl P _))
    | str i => rw [rx.str]; exact q _ _ _ _ _ hb (.same hp (rbl P _))
    | tup i => obtain ⟨a, _, rfl, _⟩ := rx.tup; exact q _ _ _ _ _ hb (.same hp (rbl P _))
    | lst i => obtain ⟨a, _, rfl, _⟩ := rx.lst hp; exact q _ _ _ _ _ hb (.same hp (rbl P _))
    | _ => exact hb.elim
  | bl b =>
    cases x with
    | bl a => exact .inr ⟨a, b, rx.bl, ry.bl, q _ _ _ _ _ hb (.same hp (rbl P _))⟩
    | _ => exact hb.elim
  | _ => cases x <;> exact hb.elim
theorem cmp_S (hu : X.A.units + 65 < cLine) (o : CmpOp) : OpS X W (compareOp o) 0 (wCmp o) := by
  cases o with
  | Eq => exact eq_S hu
  | NotEq => exact ne_S hu
  | Lt => exact op_i0 op_lt (gd := fun i j => .bl (decide (i < j))) (fun P i j => rbl P _) fun x y post z => by cases x <;> cases y <;> first | exact ⟨_, _, rfl, rfl, z⟩ | exact z.elim
  | LtE => exact op_i0 op_le (gd := fun i j => .bl (decide (i ≤ j))) (fun P i j => rbl P _) fun x y post z => by cases x <;> cases y <;> first | exact ⟨_, _, rfl, rfl, z⟩ | exact z.elim
  | Gt => exact op_i0 op_gt (gd := fun i j => .bl (decide (j < i))) (fun P i j => rbl P _) fun x y post z => by cases x <;> cases y <;> first | exact ⟨_, _, rfl, rfl, z⟩ | exact z.elim
  | GtE => exact op_i0 op_ge (gd := fun i j => .bl (decide (j ≤ i))) (fun P i j => rbl P _) fun x y post z => by cases x <;> cases y <;> first | exact ⟨_, _, rfl, rfl, z⟩ | exact z.elim
  | In => exact in_S hu
  | NotIn => exact nin_S hu
  | Is => exact is_S
  | IsNot => exact nis_S
end
end VI
set_option Elab.async false
set_option linter.all false
set_option maxRecDepth 100000
set_option maxHeartbeats 2000000
/-! VF: calls of built-ins, methods, subscripts on data -/
namespace VI
open PySem PySem.Spec PyProof.Rows L2

def CallS (X : Cx) (W : Wd) (f : Value) (n : Nat) (wb : List D → (D → Prop) → Prop) : Prop := ∃ r, CallR X f r ∧
  ∀ (ds : List D) (vs : List V) (P H : Hp) (post : D → Prop) (Q : VK), HP W P H → Paired (RB W P H) ds vs → wb ds post → (∀ d v P' H' F, post d → Res W n P H d v P' H' F → Q v H') → r vs H Q
theorem CallS.or {X : Cx} {W : Wd} {f : Value} {n : Nat} {wa wb : List D → (D → Prop) → Prop} (h : CallS X W f n wa) (k : CallS X W f n wb) : CallS X W f n (fun ds post => wa ds post ∨ wb ds post) := by
  obtain ⟨r, h1, h2⟩ := h
  obtain ⟨q, k1, k2⟩ := k
  refine ⟨_, h1.or k1, fun ds vs P H post Q hp rs hb z => ?_⟩
  exact hb.imp (fun hb => h2 ds vs P H post Q hp rs hb z) fun hb => k2 ds vs P H post Q hp rs hb z
theorem CallS.imp {X : Cx} {W : Wd} {f : Value} {n : Nat} {wa wb : List D → (D → Prop) → Prop} (h : CallS X W f n wa) (k : ∀ ds post, wb ds post → wa ds post) : CallS X W f n wb := by
  obtain ⟨r, h1, h2⟩ := h
  exact ⟨r, h1, fun ds vs P H post Q hp rs hb z => h2 ds vs P H post Q hp rs (k _ _ hb) z⟩
section
variable {W : Wd} {P H : Hp}
theorem p1 {d : D} {vs : List V} (h : Paired (RB W P H) [d] vs) : ∃ v, vs = [v] ∧ RB W P H d v := by
  cases h with
  | cons r t => cases t; exact ⟨_, rfl, r⟩
theorem p2 {d e : D} {vs : List V} (h : Paired (RB W P H) [d, e] vs) : ∃ v u, vs = [v, u] ∧ RB W P H d v ∧ RB W P H e u := by
  cases h with
  | cons r t =>
    cases t with
    | cons q t => cases t; exact ⟨_, _, rfl, r, q⟩
/-- a list or a tuple -/
def seqD : D → Option (List D)
  | .tup ds => some ds
  | .lst ds => some ds
  | _ => none
theorem RB.seq2 {d : D} {v : V} {ds : List D} (hp : HP W P H) (h : RB W P H d v) (e : seqD d = some ds) : ∃ a xs, v = .ref a ∧ ((d = .lst ds ∧ H a = some (.lst xs)) ∨ (d = .tup ds ∧ H a = some (.tup xs))) ∧ Rs W.dk P ds xs := by
  cases d with
  | tup es => cases e; obtain ⟨a, xs, rfl, h1, r⟩ := h.tup; exact ⟨a, xs, rfl, .inr ⟨rfl, hp.sub _ _ h1⟩, r⟩
  | lst es => cases e; obtain ⟨a, xs, rfl, h1, r⟩ := h.lst hp; exact ⟨a, xs, rfl, .inl ⟨rfl, h1⟩, r⟩
  | _ => cases e
theorem RB.seq {K : PySem.W.Frag} {d : D} {v : V} {ds : List D} (hp : HP W P H) (h : RB W P H d v) (e : seqD d = some ds) : ∃ a xs, v = .ref a ∧ (SqL K H a xs ∨ SqT K H a xs) ∧ Rs W.dk P ds xs := by
  cases d with
  | tup es => cases e; obtain ⟨a, xs, rfl, h1, r⟩ := h.tup; exact ⟨a, xs, rfl, .inr (SqT.of (hp.sub _ _ h1)), r⟩
  | lst es => cases e; obtain ⟨a, xs, rfl, h1, r⟩ := h.lst hp; exact ⟨a, xs, rfl, .inl (SqL.of h1), r⟩
  | _ => cases e
end

def wLen : List D → (D → Prop) → Prop
  | [.tup ds], post => post (.int ds.length)
  | [.lst ds], post => post (.int ds.length)
  | [.dT ks _], post => post (.int ks.length)
  | [.str x], post => x.length ≤ sizeLine ∧ post (.int x.length)
  | _, _ => False
def wTup : List D → (D → Prop) → Prop
  | [.tup ds], post => post (.tup ds)
  | [.lst ds], post => post (.tup ds)
  | _, _ => False
def wLst : List D → (D → Prop) → Prop
  | [.tup ds], post => post (.lst ds)
  | [.lst ds], post => post (.lst ds)
  | _, _ => False
def bools : List D → Option (List Bool)
  | [] => some []
  | .bl b :: ds => (bools ds).map (b :: ·)
  | _ => none
def wAll : List D → (D → Prop) → Prop
  | [.lst ds], post => ∃ bs, bools ds = some bs ∧ post (.bl (bs.all id))
  | _, _ => False
def wAny : List D → (D → Prop) → Prop
  | [.lst ds], post => ∃ bs, bools ds = some bs ∧ post (.bl (bs.any id))
  | _, _ => False
def wRepr : List D → (D → Prop) → Prop
  | [.tup ds], post => Fit (.tup ds) ∧ post (.str (py (.tup ds)).shown)
  | [.lst ds], post => Fit (.lst ds) ∧ post (.str (py (.lst ds)).shown)
  | _, _ => False
def wInt : List D → (D → Prop) → Prop
  | [.int i], post => post (.int i)
  | [.bl b], post => post (.int (if b then 1 else 0))
  | _, _ => False
def wAbs : List D → (D → Prop) → Prop
  | [.int i], post => post (.int (if i < 0 then -i else i))
  | _, _ => False
/-- the first of the least: told by its data -/
def wMin : List D → (D → Prop) → Prop
  | [x, y], post => (match x, y with | .int i, .int j => post (.int (if j < i then j else i)) | _, _ => False)
  | [x], post => ∃ d ds, seqD x = some (d :: ds) ∧ Fit x ∧ PySem.W.AlikeAll (pys (d :: ds)) ∧ ∀ e ∈ d :: ds, py e = PySem.W.minD (py d) (pys ds) → post e
  | _, _ => False
def wMax : List D → (D → Prop) → Prop
  | [x, y], post => (match x, y with | .int i, .int j => post (.int (if j > i then j else i)) | _, _ => False)
  | [x], post => ∃ d ds, seqD x = some (d :: ds) ∧ Fit x ∧ PySem.W.AlikeAll (pys (d :: ds)) ∧ ∀ e ∈ d :: ds, py e = PySem.W.maxD (py d) (pys ds) → post e
  | _, _ => False
def sortD (ds : List D) : List D := ds.mergeSort (PySem.W.dataLe false py)
def wSorted : List D → (D → Prop) → Prop
  | [.lst ds], post => Fit (.lst ds) ∧ PySem.W.AllAlike (pys ds) ∧ PySem.W.Sortable (pys ds) ∧ ds.length ≤ sizeLine ∧ post (.lst (sortD ds))
  | _, _ => False

theorem bools_r {dk : Addr} {P : Hp} : ∀ {ds : List D} {xs : List V} {bs : List Bool}, Rs dk P ds xs → bools ds = some bs → xs = bs.map V.bl
  | [], xs, bs, r, h => by
    cases h
    simp only [Rs] at r
    exact r
  | d :: ds, xs, bs, r, h => by
    simp only [Rs] at r
    obtain ⟨v, q, rfl, r1, r2⟩ := r
    cases d with
    | bl b =>
      have h : (bools ds).map (b :: ·) = some bs := h
      cases e : bools ds with
      | none => rw [e] at h; cases h
      | some cs =>
        rw [e] at h
        cases h
        simp only [R] at r1
        rw [r1, bools_r r2 e]
        rfl
    | _ => cases h
section
variable {X : Cx} {W : Wd}
theorem len_S : CallS X W (.builtin "len") 0 wLen := by
  refine ⟨_, call_len_seq.or (call_len_dT.or call_len_str), fun ds vs P H post Q hp rs hb z => ?_⟩
  match ds, hb with
  | [.tup es], hb =>
    obtain ⟨v, rfl, r⟩ := p1 rs
    obtain ⟨a, xs, rfl, q, r⟩ := RB.seq (K := X.K) hp r (ds := es) rfl
    exact .inl ⟨a, xs, rfl, q, by rw [← r.len]; exact z _ _ _ _ _ hb (.same hp (rint P _))⟩
  | [.lst es], hb =>
    obtain ⟨v, rfl, r⟩ := p1 rs
    obtain ⟨a, xs, rfl, q, r⟩ := RB.seq (K := X.K) hp r (ds := es) rfl
    exact .inl ⟨a, xs, rfl, q, by rw [← r.len]; exact z _ _ _ _ _ hb (.same hp (rint P _))⟩
  | [.dT ks es], hb =>
    obtain ⟨v, rfl, r⟩ := p1 rs
    obtain ⟨a, kvs, rfl, q, rfl, r⟩ := r.dT hp
    refine .inr (.inl ⟨a, kvs, rfl, q, ?_⟩)
    have hb : post (.int ((kvs.map (·.1)).length : Nat)) := hb
    rw [List.length_map] at hb
    exact z _ _ _ _ _ hb (.same hp (rint P _))
  | [.str x], hb =>
    obtain ⟨v, rfl, r⟩ := p1 rs
    exact .inr (.inr ⟨x, by rw [r.str], hb.1, z _ _ _ _ _ hb.2 (.same hp (rint P _))⟩)
theorem tup_S : CallS X W (.type "tuple") 0 wTup := by
  refine ⟨_, call_tuple_of, fun ds vs P H post Q hp rs hb z => ?_⟩
  match ds, hb with
  | [.tup es], hb =>
    obtain ⟨v, rfl, r⟩ := p1 rs
    obtain ⟨a, xs, rfl, q, r⟩ := r.tup
    refine ⟨a, xs, rfl, .inr ⟨SqT.of (hp.sub _ _ q), z _ _ _ _ _ hb (.same hp ?_)⟩⟩
    simp only [R]
    exact ⟨a, xs, rfl, q, r⟩
  | [.lst es], hb =>
    obtain ⟨v, rfl, r⟩ := p1 rs
    obtain ⟨a, xs, rfl, q, r⟩ := r.lst hp
    exact ⟨a, xs, rfl, .inl ⟨SqL.of q, fun l nl => z _ _ _ _ _ hb (.tup hp nl r)⟩⟩
theorem lst_S : CallS X W (.type "list") 1 wLst := by
  refine ⟨_, call_list_of, fun ds vs P H post Q hp rs hb z => ?_⟩
  match ds, hb with
  | [.tup es], hb =>
    obtain ⟨v, rfl, r⟩ := p1 rs
    obtain ⟨a, xs, rfl, q, r⟩ := RB.seq (K := X.K) hp r (ds := es) rfl
    exact ⟨a, xs, rfl, q, fun l nl => z _ _ _ _ _ hb (.lst hp nl r)⟩
  | [.lst es], hb =>
    obtain ⟨v, rfl, r⟩ := p1 rs
    obtain ⟨a, xs, rfl, q, r⟩ := RB.seq (K := X.K) hp r (ds := es) rfl
    exact ⟨a, xs, rfl, q, fun l nl => z _ _ _ _ _ hb (.lst hp nl r)⟩
theorem all_S (hc : X.calm = true) : CallS X W (.builtin "all") 0 wAll := by
  refine ⟨_, cr_all hc, fun ds vs P H post Q hp rs hb z => ?_⟩
  match ds, hb with
  | [.lst es], hb =>
    obtain ⟨bs, e, hb⟩ := hb
    obtain ⟨v, rfl, r⟩ := p1 rs
    obtain ⟨a, xs, rfl, q, r⟩ := r.lst hp
    rw [bools_r r e] at q
    exact ⟨a, bs, rfl, SqL.of q, z _ _ _ _ _ hb (.same hp (rbl P _))⟩
theorem any_S (hc : X.calm = true) : CallS X W (.builtin "any") 0 wAny := by
  refine ⟨_, cr_any hc, fun ds vs P H post Q hp rs hb z => ?_⟩
  match ds, hb with
  | [.lst es], hb =>
    obtain ⟨bs, e, hb⟩ := hb
    obtain ⟨v, rfl, r⟩ := p1 rs
    obtain ⟨a, xs, rfl, q, r⟩ := r.lst hp
    rw [bools_r r e] at q
    exact ⟨a, bs, rfl, SqL.of q, z _ _ _ _ _ hb (.same hp (rbl P _))⟩
theorem int_S : CallS X W (.type "int") 0 wInt := by
  refine ⟨_, call_int1, fun ds vs P H post Q hp rs hb z => ?_⟩
  match ds, hb with
  | [.int i], hb =>
    obtain ⟨v, rfl, r⟩ := p1 rs
    exact .inl ⟨i, by rw [r.int], z _ _ _ _ _ hb (.same hp (rint P _))⟩
  | [.bl b], hb =>
    obtain ⟨v, rfl, r⟩ := p1 rs
    exact .inr ⟨b, by rw [r.bl], z _ _ _ _ _ hb (.same hp (rint P _))⟩
theorem abs_S : CallS X W (.builtin "abs") 0 wAbs := by
  refine ⟨_, call_abs, fun ds vs P H post Q hp rs hb z => ?_⟩
  match ds, hb with
  | [.int i], hb =>
    obtain ⟨v, rfl, r⟩ := p1 rs
    exact ⟨i, by rw [r.int], z _ _ _ _ _ hb (.same hp (rint P _))⟩
theorem call_repr_d (gd : Gd X.A) (hu : X.A.units + 65 < cLine) : CallR X (.builtin "repr") (fun xs H Q => ∃ (a : Addr) (d : D), xs = [.ref a] ∧ Dp X.K H (.ref a) (py d) ∧ Fit d ∧ Q (.str (py d).shown) H) := by
  intro pins s σ H xs us Q I rs h
  obtain ⟨a, d, rfl, hd, f, q⟩ := h
  obtain rfl := Vals.ref1 rs
  obtain ⟨as, r⟩ := Dp.reads I _ _ (.ref a) hd rfl
  obtain ⟨ms, b, l, _⟩ := id f
  have ft := b.fit
  have nd : (py d).hasDict = false := by
    have c := ft.lay
    clear q r hd ft f b
    have key : ∀ (e : PyData), e.canLay0 = true → e.hasDict = false := by
      intro e
      refine PyData.rec (motive_1 := fun e => e.canLay0 = true → e.hasDict = false) (motive_2 := fun es => PyData.canLayAll0 es = true → PyData.hasDictAll es = false) (motive_3 := fun _ => True) (motive_4 := fun _ => True) ?_ ?_ ?_ ?_ ?_ ?_ ?_ ?_ ?_ ?_ ?_ ?_ e
      · intro _; rfl
      · intro _ _; rfl
      · intro _ _; rfl
      · intro _ _; rfl
      · intro xs ih h; exact ih h
      · intro xs ih h; exact ih h
      · intro _ _ h; cases h
      · intro _; rfl
      · intro x xs i1 i2 h
        have h : x.canLay0 = true ∧ PyData.canLayAll0 xs = true := by simpa [PyData.canLayAll0] using h
        show (x.hasDict || PyData.hasDictAll xs) = false
        rw [i1 h.1, i2 h.2]; rfl
      · trivial
      · intros; trivial
      · intros; trivial
    exact key _ c
  refine PySem.repr_of_reads' r ft.sho (fun z => by rw [nd] at z; cases z) gd (by have := ft.dep; omega) (fun _ _ z => z) (fun h' u tk hk => ?_) f.shown
  exact ⟨.str _, H, I.kept hk, ⟨_, rfl⟩, q⟩
theorem repr_S (gd : Gd X.A) (hu : X.A.units + 65 < cLine) : CallS X W (.builtin "repr") 0 wRepr := by
  refine ⟨_, call_repr_d gd hu, fun ds vs P H post Q hp rs hb z => ?_⟩
  match ds, hb with
  | [.tup es], hb =>
    obtain ⟨v, rfl, r⟩ := p1 rs
    have q := r.dp (K := X.K) hp hb.1
    obtain ⟨a, xs, rfl, _, _⟩ := r.tup
    exact ⟨a, _, rfl, q, hb.1, z _ _ _ _ _ hb.2 (.same hp (rstr P _))⟩
  | [.lst es], hb =>
    obtain ⟨v, rfl, r⟩ := p1 rs
    have q := r.dp (K := X.K) hp hb.1
    obtain ⟨a, xs, rfl, _, _⟩ := r.lst hp
    exact ⟨a, _, rfl, q, hb.1, z _ _ _ _ _ hb.2 (.same hp (rstr P _))⟩
end
end VI
set_option Elab.async false
set_option linter.all false
set_option maxRecDepth 100000
set_option maxHeartbeats 2000000
/-! VG: min, max, sorted, index, count -/
namespace VI
open PySem PySem.Spec PyProof.Rows L2

theorem dpall_get {K : PySem.W.Frag} {H : Hp} : ∀ {xs : List V} {ds : List PyData} {i : Nat} {x : V}, DpAll K H xs ds → xs[i]? = some x → ∃ d, ds[i]? = some d ∧ Dp K H x d
  | _, _, _, _, .nil, h => by simp at h
  | _, _, 0, _, .cons r _, h => by simp at h; subst h; exact ⟨_, rfl, r⟩
  | _, _, i + 1, _, .cons _ t, h => by
    obtain ⟨d, h1, h2⟩ := dpall_get (i := i) t (by simpa using h)
    exact ⟨d, by simpa using h1, h2⟩
theorem vals_get' {xs : List V} {us : List Value} {i : Nat} {u : Value} (r : Vals xs us) (h : us[i]? = some u) : ∃ x, xs[i]? = some x ∧ RelV x u := pr_get' r h

section
variable {X : Cx} {W : Wd}
/-- a list or tuple that reads as data -/
def SqD (K : PySem.W.Frag) (H : Hp) (a : Addr) (xs : List V) (ds : List PyData) : Prop := (SqL K H a xs ∨ SqT K H a xs) ∧ DpAll K H xs ds ∧ PyData.canLayAll0 ds = true ∧ PyData.depthAll ds ≤ 61
theorem SqD.run {pins : List (Addr × Obj)} {σ : L2.St} {H : Hp} {s : Shared} {a : Addr} {xs : List V} {ds : List PyData} (I : Inv X pins σ H s) (h : SqD X.K H a xs ds) :
    ∃ its as, Vals xs its ∧ ReadsAll s.heap its ds as ∧ xs.length ≤ sizeLine ∧ (s.heap.IsList a its.toArray ∨ s.heap.IsTuple a its.toArray) := by
  obtain ⟨q, da, lay, dep⟩ := h
  rcases q with q | q
  · obtain ⟨its, rv, pl, hz⟩ := I.list q
    obtain ⟨as, r⟩ := Dp.readsAll I _ _ _ da rv
    exact ⟨its, as, rv, r, hz, .inl pl.isList⟩
  · obtain ⟨its, rv, pl, hz⟩ := I.tuple q
    obtain ⟨as, r⟩ := Dp.readsAll I _ _ _ da rv
    exact ⟨its, as, rv, r, hz, .inr pl⟩
/-- what stands at the i-th place reads as the i-th datum alone -/
theorem item_is {pins : List (Addr × Obj)} {σ : L2.St} {H : Hp} {s : Shared} {xs : List V} {ds : List PyData} {i : Nat} {x : V} {u : Value} {d e : PyData} {as : List Addr} {h' : Heap} (I : Inv X pins σ H s) (da : DpAll X.K H xs ds) (lay : PyData.canLayAll0 ds = true)
    (hx : xs[i]? = some x) (r : RelV x u) (hk : ∀ b o, s.heap.get? b = some o → h'.get? b = some o) (hr : Reads h' u e as) (hd : ds[i]? = some d) : d = e := by
  obtain ⟨d', h1, h2⟩ := dpall_get da hx
  rw [hd] at h1
  cases h1
  obtain ⟨bs, r2⟩ := Dp.reads I d x u h2 r
  have l0 : d.canLay0 = true := by
    have key : ∀ (l : List PyData) (i : Nat), PyData.canLayAll0 l = true → l[i]? = some d → d.canLay0 = true := by
      intro l
      induction l with
      | nil => intro i _ h; simp at h
      | cons z l ih =>
        intro i h g
        have h : z.canLay0 = true ∧ PyData.canLayAll0 l = true := by simpa [PyData.canLayAll0] using h
        cases i with
        | zero => simp at g; subst g; exact h.1
        | succ i => exact ih i h.2 (by simpa using g)
    exact key ds i lay hd
  exact SeqAt.Reads.unique d e u bs as l0 (PyProof.Rows.Reads.keeps hk r2) hr
theorem call_min_d (hc : X.calm = true) (hu : X.A.units + 65 < cLine) : CallR X (.builtin "min") (fun vs H Q => ∃ (a : Addr) (xs : List V) (d : PyData) (ds : List PyData), vs = [.ref a] ∧ SqD X.K H a xs (d :: ds) ∧ PySem.W.AlikeAll (d :: ds) ∧
    ∀ (i : Nat) (x : V), xs[i]? = some x → (∀ e, (d :: ds)[i]? = some e → e = PySem.W.minD d ds) → Q x H) := by
  intro pins s σ H vs us Q I rs h
  obtain ⟨a, xs, d, ds, rfl, sq, al, q⟩ := h
  obtain rfl := Vals.ref1 rs
  have hh := I.ok.hd hc
  obtain ⟨its, as, rv, r, hz, hl⟩ := sq.run I
  have room : X.A.units + 1 + PyData.depthAll (d :: ds) < cLine := by have := sq.2.2.2; omega
  have fin : ∀ (i : Nat) (v : Value) (h' : Heap) (tk : Nat) (bs : List Addr), its.toArray[i]? = some v → Reads h' v (PySem.W.minD d ds) bs → (∀ b o, s.heap.get? b = some o → h'.get? b = some o) → EP X pins σ Q v { s with heap := h', toks := tk } := by
    intro i v h' tk bs hi hr hk
    obtain ⟨x, h1, h2⟩ := vals_get' rv (i := i) (u := v) (by simpa using hi)
    exact ⟨x, H, I.kept hk, h2, q i x h1 fun e he => item_is I sq.2.1 sq.2.2.1 h1 h2 hk hr he⟩
  rcases hl with hl | hl
  · exact PySem.W.min_list_data hh hl (by simpa using r) al room fin
  · exact PySem.W.min_tuple_data hh hl (by simpa using r) al room fin
theorem call_max_d (hc : X.calm = true) (hu : X.A.units + 65 < cLine) : CallR X (.builtin "max") (fun vs H Q => ∃ (a : Addr) (xs : List V) (d : PyData) (ds : List PyData), vs = [.ref a] ∧ SqD X.K H a xs (d :: ds) ∧ PySem.W.AlikeAll (d :: ds) ∧
    ∀ (i : Nat) (x : V), xs[i]? = some x → (∀ e, (d :: ds)[i]? = some e → e = PySem.W.maxD d ds) → Q x H) := by
  intro pins s σ H vs us Q I rs h
  obtain ⟨a, xs, d, ds, rfl, sq, al, q⟩ := h
  obtain rfl := Vals.ref1 rs
  have hh := I.ok.hd hc
  obtain ⟨its, as, rv, r, hz, hl⟩ := sq.run I
  have room : X.A.units + 1 + PyData.depthAll (d :: ds) < cLine := by have := sq.2.2.2; omega
  have fin : ∀ (i : Nat) (v : Value) (h' : Heap) (tk : Nat) (bs : List Addr), its.toArray[i]? = some v → Reads h' v (PySem.W.maxD d ds) bs → (∀ b o, s.heap.get? b = some o → h'.get? b = some o) → EP X pins σ Q v { s with heap := h', toks := tk } := by
    intro i v h' tk bs hi hr hk
    obtain ⟨x, h1, h2⟩ := vals_get' rv (i := i) (u := v) (by simpa using hi)
    exact ⟨x, H, I.kept hk, h2, q i x h1 fun e he => item_is I sq.2.1 sq.2.2.1 h1 h2 hk hr he⟩
  rcases hl with hl | hl
  · exact PySem.W.max_list_data hh hl (by simpa using r) al room fin
  · exact PySem.W.max_tuple_data hh hl (by simpa using r) al room fin
theorem RB.sqd {P H : Hp} {d : D} {v : V} {ds : List D} (hp : HP W P H) (f : Fit d) (h : RB W P H d v) (e : seqD d = some ds) : ∃ a xs, v = .ref a ∧ SqD X.K H a xs (pys ds) ∧ Rs W.dk P ds xs ∧ ((d = .lst ds ∧ H a = some (.lst xs)) ∨ (d = .tup ds ∧ H a = some (.tup xs))) := by
  obtain ⟨a, xs, rfl, sq, r⟩ := RB.seq2 hp h e
  obtain ⟨ms, b, l, _⟩ := f
  have ft := b.fit
  have sqK : SqL X.K H a xs ∨ SqT X.K H a xs := sq.imp (fun z => SqL.of z.2) fun z => SqT.of z.2
  have items : ∀ e ∈ ds, ∃ ns : List Nat, Bd ns e := by
    intro y hy
    rcases sq with ⟨rfl, _⟩ | ⟨rfl, _⟩ <;> cases ms with
    | nil => have b : ds = [] := by simpa only [Bd] using b
             subst b; cases hy
    | cons m ms => have b : ds.length ≤ m ∧ ∀ d ∈ ds, Bd ms d := by simpa only [Bd] using b
                   exact ⟨ms, b.2 y hy⟩
  refine ⟨a, xs, rfl, ⟨sqK, dpall_of (Rs.iff.mp r) fun d hd u rr => ?_, ?_, ?_⟩, r, sq⟩
  · obtain ⟨ns, bn⟩ := items d hd
    exact R.dp hp.sub ns d u bn rr
  · rcases sq with ⟨rfl, _⟩ | ⟨rfl, _⟩ <;> exact ft.lay
  · have dp := ft.dep
    rcases sq with ⟨rfl, _⟩ | ⟨rfl, _⟩
    · have : PyData.depthAll (pys ds) + 1 ≤ ms.length + 1 := dp
      omega
    · have : PyData.depthAll (pys ds) + 1 ≤ ms.length + 1 := dp
      omega
theorem pys_get {ds : List D} {i : Nat} {d : D} (h : ds[i]? = some d) : (pys ds)[i]? = some (py d) := by rw [pys_map, List.getElem?_map, h]; rfl
theorem min_S (hc : X.calm = true) (hu : X.A.units + 65 < cLine) : CallS X W (.builtin "min") 0 wMin := by
  refine ⟨_, (call_min2 hc).or (call_min_d hc hu), fun ds vs P H post Q hp rs hb z => ?_⟩
  match ds, hb with
  | [x, y], hb =>
    obtain ⟨v, u, rfl, r1, r2⟩ := p2 rs
    cases x with
    | int i =>
      cases y with
      | int j => exact .inl ⟨i, j, by rw [r1.int, r2.int], z _ _ _ _ _ hb (.same hp (rint P _))⟩
      | _ => exact hb.elim
    | _ => exact hb.elim
  | [x], hb =>
    obtain ⟨d, ds, e, f, al, hb⟩ : ∃ d ds, seqD x = some (d :: ds) ∧ Fit x ∧ PySem.W.AlikeAll (pys (d :: ds)) ∧ ∀ e ∈ d :: ds, py e = PySem.W.minD (py d) (pys ds) → post e := hb
    obtain ⟨v, rfl, r⟩ := p1 rs
    obtain ⟨a, xs, rfl, sq, r, _⟩ := RB.sqd (X := X) hp f r e
    refine .inr ⟨a, xs, py d, pys ds, rfl, sq, al, fun i y hy he => ?_⟩
    obtain ⟨e, h1, h2⟩ := r.get' hy
    exact z _ _ _ _ _ (hb e (List.mem_of_getElem? h1) (he _ (pys_get h1))) (.same hp h2)
theorem max_S (hc : X.calm = true) (hu : X.A.units + 65 < cLine) : CallS X W (.builtin "max") 0 wMax := by
  refine ⟨_, (call_max2 hc).or (call_max_d hc hu), fun ds vs P H post Q hp rs hb z => ?_⟩
  match ds, hb with
  | [x, y], hb =>
    obtain ⟨v, u, rfl, r1, r2⟩ := p2 rs
    cases x with
    | int i =>
      cases y with
      | int j => exact .inl ⟨i, j, by rw [r1.int, r2.int], z _ _ _ _ _ hb (.same hp (rint P _))⟩
      | _ => exact hb.elim
    | _ => exact hb.elim
  | [x], hb =>
    obtain ⟨d, ds, e, f, al, hb⟩ : ∃ d ds, seqD x = some (d :: ds) ∧ Fit x ∧ PySem.W.AlikeAll (pys (d :: ds)) ∧ ∀ e ∈ d :: ds, py e = PySem.W.maxD (py d) (pys ds) → post e := hb
    obtain ⟨v, rfl, r⟩ := p1 rs
    obtain ⟨a, xs, rfl, sq, r, _⟩ := RB.sqd (X := X) hp f r e
    refine .inr ⟨a, xs, py d, pys ds, rfl, sq, al, fun i y hy he => ?_⟩
    obtain ⟨e, h1, h2⟩ := r.get' hy
    exact z _ _ _ _ _ (hb e (List.mem_of_getElem? h1) (he _ (pys_get h1))) (.same hp h2)

/-! sorted -/
theorem call_sorted_d (hu : X.A.units + 65 < cLine) : CallR X (.builtin "sorted") (fun vs H Q => ∃ (a : Addr) (zs : List (D × V)), vs = [.ref a] ∧ SqL X.K H a (zs.map (·.2)) ∧ DpAll X.K H (zs.map (·.2)) (zs.map fun z => py z.1) ∧
    PySem.W.AllAlike (zs.map fun z => py z.1) ∧ PySem.W.Sortable (zs.map fun z => py z.1) ∧ PyData.depthAll (zs.map fun z => py z.1) ≤ 61 ∧
    ∀ p, H p = none → Q (.ref p) (upd H p (.lst ((zs.mergeSort (PySem.W.dataLe false fun z => py z.1)).map (·.2))))) := by
  intro pins s σ H vs us Q I rs h
  obtain ⟨a, zs, rfl, hs, da, al, so, dep, q⟩ := h
  obtain rfl := Vals.ref1 rs
  obtain ⟨its, rv, pl, hz⟩ := I.list hs
  obtain ⟨as, r⟩ := Dp.readsAll I _ _ _ da rv
  have e1 : ∀ {its : List Value} {zs : List (D × V)}, Vals (zs.map (·.2)) its → PySem.W.EachIs (fun v (z : D × V) => RelV z.2 v) its zs := by
    intro its zs h
    induction zs generalizing its with
    | nil => cases h; exact .nil
    | cons z zs ih => cases h with | cons h t => exact .cons h (ih t)
  have e2 : ∀ {its : List Value} {zs : List (D × V)} {as : List Addr}, ReadsAll s.heap its (zs.map fun z => py z.1) as → PySem.W.EachIs (fun v (z : D × V) => ∃ as, Reads s.heap v (py z.1) as) its zs := by
    intro its zs
    induction zs generalizing its with
    | nil => intro as h; cases h; exact .nil
    | cons z zs ih => intro as h; cases h with | cons h t => exact .cons ⟨_, h⟩ (ih t)
  have dz : ∀ z ∈ zs, (py z.1).depth ≤ 61 := by
    have key : ∀ (l : List PyData), PyData.depthAll l ≤ 61 → ∀ d ∈ l, d.depth ≤ 61 := by
      intro l
      induction l with
      | nil => intro _ d hd; cases hd
      | cons z l ih =>
        intro h d hd
        have h : z.depth ≤ 61 ∧ PyData.depthAll l ≤ 61 := by simpa [PyData.depthAll, Nat.max_le] using h
        rcases List.mem_cons.mp hd with e | hd
        · rw [e]; exact h.1
        · exact ih h.2 d hd
    exact fun z hz => key _ dep _ (List.mem_map.mpr ⟨z, hz, rfl⟩)
  refine PySem.W.sorted_data (R := fun v (z : D × V) => RelV z.2 v) (bs := zs) (enc := fun z => py z.1) pl.isList (e1 rv) (e2 r) al so (by simpa using hz) (fun z hz => by have := dz z hz; omega) fun out hlen ho => ?_
  obtain ⟨ep, he⟩ := PyProof.Rows.sortedAll_at s.heap its out.toArray
  have back : ∀ {out : List Value} {l : List (D × V)}, PySem.W.EachIs (fun v (z : D × V) => RelV z.2 v) out l → Vals (l.map (·.2)) out := by
    intro out l h
    induction h with
    | nil => exact .nil
    | cons h t ih => exact .cons h ih
  have hl2 : ((zs.mergeSort (PySem.W.dataLe false fun z => py z.1)).map (·.2)).length ≤ sizeLine := by
    rw [List.length_map, List.length_mergeSort]; simpa using hz
  refine ⟨.ref _, upd H (s.heap.objs.size + 1) (.lst ((zs.mergeSort (PySem.W.dataLe false fun z => py z.1)).map (·.2))), I.laid (t' := s.toks) (fun _ _ => PyProof.Rows.sortedAll_old) (Nat.le_succ _) ⟨hl2, out, ep, back ho, ?_⟩, rfl, q _ (I.hok.fresh (Nat.le_succ _))⟩
  simpa using he
theorem sorted_S (hu : X.A.units + 65 < cLine) : CallS X W (.builtin "sorted") 1 wSorted := by
  refine ⟨_, call_sorted_d hu, fun ds vs P H post Q hp rs hb z => ?_⟩
  match ds, hb with
  | [.lst es], hb =>
    obtain ⟨f, al, so, hz, hb⟩ := hb
    obtain ⟨v, rfl, r0⟩ := p1 rs
    obtain ⟨a, xs, rfl, sq, r, sh⟩ := RB.sqd (X := X) hp f r0 (ds := es) rfl
    have hl := r.len
    have m2 : (es.zip xs).map (·.2) = xs := List.map_snd_zip (by omega)
    have m1 : (es.zip xs).map (fun z => py z.1) = pys es := by
      rw [pys_map, show (fun z : D × V => py z.1) = py ∘ Prod.fst from rfl, ← List.map_map, List.map_fst_zip (by omega)]
    have lst : SqL X.K H a xs := by
      rcases sh with ⟨_, q⟩ | ⟨q, _⟩
      · exact SqL.of q
      · cases q
    refine ⟨a, es.zip xs, rfl, by rw [m2]; exact lst, by rw [m1, m2]; exact sq.2.1, by rw [m1]; exact al, by rw [m1]; exact so, by rw [m1]; exact sq.2.2.2, fun p np => ?_⟩
    have rz : ∀ zs : List (D × V), (∀ z ∈ zs, R W.dk P z.1 z.2) → Rs W.dk P (zs.map (·.1)) (zs.map (·.2)) := by
      intro zs
      induction zs with
      | nil => intro _; exact Rs.nil
      | cons z zs ih => intro h; exact Rs.cons (h z List.mem_cons_self) (ih fun y hy => h y (List.mem_cons_of_mem _ hy))
    have rp : ∀ z ∈ es.zip xs, R W.dk P z.1 z.2 := by
      have pr := Rs.iff.mp r
      clear m1 m2 hl lst sq r al so hz hb f rs z r0 sh
      induction pr with
      | nil => intro z hz; cases hz
      | cons q t ih =>
        intro z hz
        rcases List.mem_cons.mp hz with e | hz
        · rw [e]; exact q
        · exact ih z hz
    have rs2 := rz ((es.zip xs).mergeSort (PySem.W.dataLe false fun z => py z.1)) fun z hz => rp z (List.mem_mergeSort.mp hz)
    have es2 : ((es.zip xs).mergeSort (PySem.W.dataLe false fun z : D × V => py z.1)).map (·.1) = sortD es := by
      rw [List.map_mergeSort (s := PySem.W.dataLe false py)]
      · rw [List.map_fst_zip (by omega)]; rfl
      · intro a _ b _; rfl
    rw [es2] at rs2
    exact z _ _ _ _ _ hb (.lst hp np rs2)
end
end VI
set_option Elab.async false
set_option linter.all false
set_option maxRecDepth 100000
set_option maxHeartbeats 2000000
/-! VH: subscripts, slices -/
namespace VI
open PySem PySem.Spec PyProof.Rows L2

def IxS (X : Cx) (W : Wd) (n : Nat) (wb : D → D → (D → Prop) → Prop) : Prop := ∃ r : R2, IxR X r ∧
  ∀ (x y : D) (vx vy : V) (P H : Hp) (post : D → Prop) (Q : VK), HP W P H → RB W P H x vx → RB W P H y vy → wb x y post → (∀ d v P' H' F, post d → Res W n P H d v P' H' F → Q v H') → r vx vy H Q
def wIx (x y : D) (post : D → Prop) : Prop := match x with
  | .tup ds => (match y with | .int i => ∃ d, atI ds i = some d ∧ post d | _ => False)
  | .lst ds => (match y with | .int i => ∃ d, atI ds i = some d ∧ post d | _ => False)
  | .dT ks vs => ∃ k d, keyT y = some k ∧ getD_ ks vs k = some d ∧ post d
  | .dK ks vs => ∃ k d, keyK y = some k ∧ getD_ ks vs k = some d ∧ post d
  | _ => False
section
variable {X : Cx} {W : Wd}
theorem ix_d (hu : X.A.units + 1 < cLine) : IxR X (fun x y H Q => ∃ a v, x = .ref a ∧ DGet H a y (some v) ∧ Q v H) := by
  intro value slice pins s σ H x y v u Q I rx ry h hs
  obtain ⟨a, z, rfl, g, q⟩ := h
  cases rx
  refine tail_any (ops := [.ref a, u]) (dict_typeIs I g) PySem.F.slot_dict_getitem.lookup ?_ hs
  exact d_getItem hu I g ry fun w' s3 I3 rw' => ⟨z, H, I3, rw', q⟩
theorem ix_S (hu : X.A.units + 65 < cLine) : IxS X W 0 wIx := by
  refine ⟨_, ix_list.or (ix_tup.or (ix_d (by omega))), fun x y vx vy P H post Q hp rx ry hb q => ?_⟩
  cases x with
  | tup ds =>
    cases y with
    | int i =>
      obtain ⟨d, h1, hb⟩ := hb
      obtain ⟨a, xs, rfl, h2, r⟩ := rx.tup
      obtain ⟨v, h3, rv⟩ := atI_map r h1
      exact .inr (.inl ⟨a, xs, i, v, rfl, ry.int, SqT.of (hp.sub _ _ h2), h3, q _ _ _ _ _ hb (.same hp rv)⟩)
    | _ => exact hb.elim
  | lst ds =>
    cases y with
    | int i =>
      obtain ⟨d, h1, hb⟩ := hb
      obtain ⟨a, xs, rfl, h2, r⟩ := rx.lst hp
      obtain ⟨v, h3, rv⟩ := atI_map r h1
      exact .inl ⟨a, xs, i, v, rfl, ry.int, SqL.of h2, h3, q _ _ _ _ _ hb (.same hp rv)⟩
    | _ => exact hb.elim
  | dT ks vs =>
    obtain ⟨k, d, hk, h1, hb⟩ := hb
    obtain ⟨a, kvs, rfl, _, rfl, r, g⟩ := dget_T (y := y) hp ry rx hk
    obtain ⟨v, e, rv⟩ := get_some r h1
    rw [e] at g
    exact .inr (.inr ⟨a, v, rfl, g, q _ _ _ _ _ hb (.same hp rv)⟩)
  | dK ks vs =>
    obtain ⟨k, d, hk, h1, hb⟩ := hb
    obtain ⟨a, kvs, rfl, _, rfl, r, g⟩ := dget_K (y := y) hp ry rx hk
    obtain ⟨v, e, rv⟩ := get_some r h1
    rw [e] at g
    exact .inr (.inr ⟨a, v, rfl, g, q _ _ _ _ _ hb (.same hp rv)⟩)
  | _ => exact hb.elim
end

/-! slices -/
def cutL {α : Type} (xs : List α) (lo hi : Option Int) : List α := (xs.drop (HT.sIx xs.length 0 lo)).take (HT.sIx xs.length xs.length hi - HT.sIx xs.length 0 lo)
theorem cut_r {dk : Addr} {P : Hp} {ds : List D} {xs : List V} (r : Rs dk P ds xs) (lo hi : Option Int) : Rs dk P (cutL ds lo hi) (cutV xs lo hi) := by
  unfold cutL cutV
  rw [r.len]
  exact Rs.iff.mpr (pr_take _ (pr_drop _ (Rs.iff.mp r)))
def wSl (x : D) (lo hi : Option Int) (post : D → Prop) : Prop := match x with
  | .tup ds => post (.tup (cutL ds lo hi))
  | _ => False
def wSlL (x : D) (lo hi : Option Int) (post : D → Prop) : Prop := match x with
  | .lst ds => post (.lst (cutL ds lo hi))
  | _ => False
def SlS (X : Cx) (W : Wd) (n : Nat) (wb : D → Option Int → Option Int → (D → Prop) → Prop) : Prop := ∃ r, SlR X r ∧
  ∀ (x : D) (lo hi : Option Int) (vx : V) (P H : Hp) (post : D → Prop) (Q : VK), HP W P H → RB W P H x vx → wb x lo hi post → (∀ d v P' H' F, post d → Res W n P H d v P' H' F → Q v H') → r vx lo hi H Q
section
variable {X : Cx} {W : Wd}
theorem sl_S : SlS X W 0 wSl := by
  refine ⟨_, sl_tupA, fun x lo hi vx P H post Q hp rx hb q => ?_⟩
  cases x with
  | tup ds =>
    obtain ⟨a, xs, rfl, h2, r⟩ := rx.tup
    refine ⟨a, xs, rfl, SqT.of (hp.sub _ _ h2), fun ⟨e1, e2⟩ => q _ _ _ _ _ hb (.same hp ?_), fun _ p np => q _ _ _ _ _ hb (.tup hp np (cut_r r lo hi))⟩
    have hl := r.len
    have e : cutL ds lo hi = ds := by
      unfold cutL
      rw [hl, e1, e2, List.drop_zero, ← hl]
      exact List.take_length
    rw [e]
    simp only [R]
    exact ⟨a, xs, rfl, h2, r⟩
  | _ => exact hb.elim
theorem slL_S : SlS X W 1 wSlL := by
  refine ⟨_, sl_list, fun x lo hi vx P H post Q hp rx hb q => ?_⟩
  cases x with
  | lst ds =>
    obtain ⟨a, xs, rfl, h2, r⟩ := rx.lst hp
    exact ⟨a, xs, rfl, SqL.of h2, fun p np => q _ _ _ _ _ hb (.lst hp np (cut_r r lo hi))⟩
  | _ => exact hb.elim
end

/-! t[::-1] -/
section
variable {prog : Program} {w : World} {A : Around} {E : Value → Shared → Prop} {s : Shared}
theorem applied_rev {sl : Addr} {vs : Value} {n : Nat} {Q : Int × Int × Nat → Shared → Prop} (hs : s.heap.IsSliceOf sl .none .none vs) (ps : IsPart vs (some (-1)))
    (h : Q ((n : Int) - 1, -1, n) s) : wpAny (model prog w) A (Builtin.Slice.sliceApplied (.ref sl) (pure (n : Int))) Q E s := by
  obtain ⟨os, h1, h2, h3⟩ := id hs
  unfold Builtin.Slice.sliceApplied Builtin.Slice.sliceFields
  refine wpAny_bind (wpAny_bind (wpAny_field h1 h3 (x := .none) rfl (wpAny_bind (wpAny_field h1 h3 (x := .none) rfl (wpAny_bind (wpAny_field h1 h3 (x := vs) rfl (wpAny_pure ?_)))))))
  refine wpAny_bind (HT.slicePart_ ps ?_)
  show wpAny _ _ (if ((-1 : Int) == 0) = true then _ else _) _ _ s
  rw [if_neg (by decide)]
  refine wpAny_bind (slicePart_none (wpAny_bind (slicePart_none (wpAny_bind (wpAny_pure ?_)))))
  have e1 : Builtin.Slice.sliceAdjust none none (-1) (n : Int) = ((n : Int) - 1, -1) := by
    unfold Builtin.Slice.sliceAdjust
    simp
  have e2 : Builtin.Slice.slicePlaces ((n : Int) - 1) (-1) (-1) = n := by
    unfold Builtin.Slice.slicePlaces
    rw [if_neg (by decide)]
    rw [show (n : Int) - 1 - -1 - 1 = (n : Int) - 1 by omega, show - (-1 : Int) = 1 by decide, Int.ediv_one]
    split <;> omega
  show wpAny _ _ (match Builtin.Slice.sliceAdjust none none (-1) (n : Int) with | (lo, hi) => pure (lo, (-1 : Int), Builtin.Slice.slicePlaces lo hi (-1))) _ _ s
  rw [e1]
  show wpAny _ _ (pure ((n : Int) - 1, (-1 : Int), Builtin.Slice.slicePlaces ((n : Int) - 1) (-1) (-1))) _ _ s
  rw [e2]
  exact wpAny_pure h
theorem fm_map {α β : Type} {f : α → Option β} {g : α → β} : ∀ {l : List α}, (∀ k ∈ l, f k = some (g k)) → l.filterMap f = l.map g
  | [], _ => rfl
  | a :: l, h => by rw [List.filterMap_cons, h a List.mem_cons_self, List.map_cons, fm_map fun k hk => h k (List.mem_cons_of_mem _ hk)]
theorem pick_rev (xs : Array Value) : ((List.range xs.size).filterMap fun (k : Nat) => xs[(((xs.size : Int) - 1) + (k : Int) * (-1)).toNat]?).toArray = xs.toList.reverse.toArray := by
  congr 1
  apply List.ext_getElem?
  intro i
  have e : (List.range xs.size).filterMap (fun (k : Nat) => xs[(((xs.size : Int) - 1) + (k : Int) * (-1)).toNat]?) = (List.range xs.size).map (fun (k : Nat) => xs.toList.reverse.getD k .none) := by
    refine fm_map fun k hk => ?_
    have hk : k < xs.size := List.mem_range.mp hk
    have e2 : (((xs.size : Int) - 1) + (k : Int) * (-1)).toNat = xs.size - 1 - k := by omega
    rw [e2]
    simp [List.getElem?_reverse, hk]
  rw [e, List.getElem?_map]
  by_cases hi : i < xs.size
  · rw [List.getElem?_range hi]
    simp [List.getElem?_reverse, hi]
  · rw [List.getElem?_eq_none (by simpa using hi), List.getElem?_eq_none (by simpa using hi)]
    rfl
theorem item_rev {t sl : Addr} {items : Array Value} {vs : Value} {Q : Value → Shared → Prop} (ht : IsTup s.heap t items) (hs : s.heap.IsSliceOf sl .none .none vs) (ps : IsPart vs (some (-1)))
    (h : Q (.ref s.heap.objs.size) { s with heap := s.heap.push { cls := .type "tuple", data := .seq items.toList.reverse.toArray } })
    (hz : items.size ≤ sizeLine) : wpAny (model prog w) A (getItem (.ref t) (.ref sl)) Q E s := by
  have so : sizeOk (.seq items.toList.reverse.toArray) := by
    show items.toList.reverse.toArray.size ≤ sizeLine
    simpa using hz
  obtain ⟨os, h1, h2, h3⟩ := id hs
  have hT : s.TypeIs (.ref sl) "slice" := ⟨os, h1, h2⟩
  unfold getItem
  try with_reducible refine wpAny_holding ?_
  first | refine wpAny_bind (wpAny_pure ?_) | skip
  refine wpAny_bind (wpAny_sequenceKey ht.typeIs (by decide) (wpAny_bind (wpAny_callSpecial?_slot (name := Str.ofString "__getitem__") ht.typeIs PyProof.Rows.slot_tuple_getitem (wpAny_call_entry PyProof.Rows.slot_tuple_getitem ht.typeIs entry_tuple_getitem ?_ (args_tuple_getitem _ _)))))
  show wpAny _ _ (Builtin.Tuple.tupleItemsOf (.ref t) >>= _) _ _ s
  refine wpAny_bind (tupleItemsOf_ ht (wpAny_bind (wpAny_typeOf hT ?_)))
  rw [if_pos (by decide)]
  refine wpAny_bind (applied_rev (n := items.size) hs ps ?_)
  show wpAny _ _ (if ((items.size : Int) - 1 == 0 && (-1 : Int) == 1 && items.size == items.size) = true then _ else _) _ _ s
  rw [if_neg (by simp), pick_rev]
  first
    | exact wpAny_bind (m := Builtin.Tuple.tupleExact _) (wpAny_newObj_type (wpAny_pure ⟨_, rfl, wpAny_pure h⟩) so)
    | exact wpAny_bind (wpAny_bind (m := Builtin.Tuple.tupleExact _) (wpAny_newObj_type (wpAny_pure (wpAny_pure ⟨_, rfl, wpAny_pure h⟩)) so))
    | exact wpAny_bind (wpAny_bind (m := Builtin.Tuple.tupleExact _) (wpAny_newObj_type (wpAny_pure ⟨_, rfl, wpAny_pure h⟩) so))
    | exact wpAny_bind (m := Builtin.Tuple.tupleExact _) (wpAny_newObj_type (wpAny_bind (wpAny_pure (wpAny_pure ⟨_, rfl, wpAny_pure h⟩))) so)
end
end VI
set_option Elab.async false
set_option linter.all false
set_option maxRecDepth 100000
set_option maxHeartbeats 2000000
/-! sorted of a tuple -/
namespace VI
open PySem PySem.Spec PyProof.Rows L2
open PySem.W (AllAlike Sortable EachIs dataLe)
section
variable {prog : Program} {w : World} {A : Around} {E : Value → Shared → Prop} {s : Shared} {β : Type} {vs : List Value} {bs : List β} {enc : β → PyData} {R : Value → β → Prop}
end
mutual
theorem reads_list {h : Heap} : ∀ {v : Value} {d : PyData} {as : List Addr}, Reads h v d as → ∀ a ∈ as, ∃ o, h.get? a = some o ∧ True
  | _, _, _, .none, a, hm => by cases hm
  | _, _, _, .bool _, a, hm => by cases hm
  | _, _, _, .int _ _, a, hm => by cases hm
  | _, _, _, .str _ _, a, hm => by cases hm
  | _, _, _, .list h1 _ _ r, a, hm => by
    rcases List.mem_cons.mp hm with e | hm
    · subst e; exact ⟨_, h1, trivial⟩
    · exact readsAll_list r a hm
  | _, _, _, .tuple _ _ _ r, a, hm => readsAll_list r a hm
  | _, _, _, .dict h1 _ _ r r2, a, hm => by
    rw [List.cons_append] at hm
    rcases List.mem_cons.mp hm with e | hm
    · subst e; exact ⟨_, h1, trivial⟩
    · rcases List.mem_append.mp hm with hm | hm
      · exact readsAll_list r a hm
      · exact readsAll_list r2 a hm
theorem readsAll_list {h : Heap} : ∀ {vs : List Value} {ds : List PyData} {as : List Addr}, ReadsAll h vs ds as → ∀ a ∈ as, ∃ o, h.get? a = some o ∧ True
  | _, _, _, .nil, a, hm => by cases hm
  | _, _, _, .cons r t, a, hm => by
    rcases List.mem_append.mp hm with hm | hm
    · exact reads_list r a hm
    · exact readsAll_list t a hm
end
section
variable {prog : Program} {w : World} {A : Around} {E : Value → Shared → Prop} {s : Shared} {β : Type} {vs : List Value} {bs : List β} {enc : β → PyData} {R : Value → β → Prop}
theorem sorted_tuple {l : Addr} {Q : Value → Shared → Prop} (hl : s.heap.IsTuple l vs.toArray) (e : EachIs R vs bs) (er : EachIs (fun v b => ∃ as, Reads s.heap v (enc b) as) vs bs) (hal : AllAlike (bs.map enc)) (hk : Sortable (bs.map enc)) (hL : bs.length ≤ sizeLine)
    (hu : ∀ b, b ∈ bs → A.units + 2 + (enc b).depth < cLine)
    (h : ∀ (out : List Value) (h1 h2 : Heap) (ep : Nat), out.length = bs.length → EachIs R out (bs.mergeSort (dataLe false enc)) → (∀ b o, s.heap.get? b = some o → h1.get? b = some o) → (∀ b o, h1.get? b = some o → h2.get? b = some o) → h2.get? h1.objs.size = some { cls := .type "list", data := .seq (List.toArray out) ep } → Q (.ref h1.objs.size) { s with heap := h2 }) :
    wpAny (model prog w) A (call (.builtin "sorted") [.ref l]) Q E s := by
  obtain ⟨o, ho, hc, n, hd⟩ := id hl
  have lv : vs.length ≤ sizeLine := by rw [e.length]; exact hL
  refine call_function_entry_kw kind_sorted plain_sorted entry_sorted (args_sorted1 _) ?_
  unfold Builtin.«sorted»
  refine wpAny_bind (m := checkCount "sorted" 1 1 _) (wpAny_pure ?_)
  refine wpAny_bind (wpAny_collect_seq l (.inr rfl) ho hc hd (fun h1 k1 => ?_) (by simpa using lv))
  refine wpAny_bind (wpAny_newList ?_ (by simpa using lv))
  have at2 : (h1.push (seqObj "list" vs.toArray 0)).get? h1.objs.size = some (seqObj "list" vs.toArray 0) := Heap.get?_push_size _ rfl
  have k2 : ∀ b ob, s.heap.get? b = some ob → (h1.push (seqObj "list" vs.toArray 0)).get? b = some ob := fun b ob z => Heap.get?_push_of_some _ (k1 b ob z)
  have er2 : EachIs (fun v b => ∃ as, Reads (h1.push (seqObj "list" vs.toArray 0)) v (enc b) as ∧ h1.objs.size ∉ as) vs bs := by
    refine er.mono fun v b ⟨as, r⟩ => ⟨as, PyProof.Rows.Reads.keeps k2 r, fun hm => ?_⟩
    obtain ⟨ob, hob, _⟩ := reads_list (PyProof.Rows.Reads.keeps k1 r) _ hm
    exact absurd (Heap.lt_size hob) (Nat.lt_irrefl _)
  refine wpAny_bind (wpAny_holding ?_)
  refine PySem.W.list_sort_data (s := { s with heap := h1.push (seqObj "list" vs.toArray 0) }) (n := 0) at2 e er2 hal hk hL (fun b hb => by have := hu b hb; show A.units + 1 + 1 + _ < _; omega) fun out ho hr => ?_
  obtain ⟨ep, he⟩ := sortedHeap_at (h := h1.push (seqObj "list" vs.toArray 0)) (out := List.toArray out) at2
  refine wpAny_pure ⟨_, rfl, h out h1 _ ep ho hr k1 (fun b ob z => ?_) he⟩
  have lt := Heap.lt_size z
  rw [sortedHeap_old (Nat.ne_of_lt lt) (by rw [size_push']; exact Nat.lt_succ_of_lt lt)]
  exact Heap.get?_push_of_some _ z
end
end VI
namespace VI
open PySem PySem.Spec PyProof.Rows L2
section
variable {X : Cx} {W : Wd}
theorem depth_mem : ∀ (l : List PyData), PyData.depthAll l ≤ 61 → ∀ d ∈ l, d.depth ≤ 61
  | [], _, d, hd => by cases hd
  | z :: l, h, d, hd => by
    have h : z.depth ≤ 61 ∧ PyData.depthAll l ≤ 61 := by simpa [PyData.depthAll, Nat.max_le] using h
    rcases List.mem_cons.mp hd with e | hd
    · rw [e]; exact h.1
    · exact depth_mem l h.2 d hd
theorem each_rel : ∀ {its : List Value} {zs : List (D × V)}, Vals (zs.map (·.2)) its → PySem.W.EachIs (fun v (z : D × V) => RelV z.2 v) its zs
  | _, [], h => by cases h; exact .nil
  | _, z :: zs, h => by cases h with | cons h t => exact .cons h (each_rel t)
theorem each_reads {hp : Heap} : ∀ {its : List Value} {zs : List (D × V)} {as : List Addr}, ReadsAll hp its (zs.map fun z => py z.1) as → PySem.W.EachIs (fun v (z : D × V) => ∃ as, Reads hp v (py z.1) as) its zs
  | _, [], _, h => by cases h; exact .nil
  | _, z :: zs, _, h => by cases h with | cons h t => exact .cons ⟨_, h⟩ (each_reads t)
theorem each_back {out : List Value} {l : List (D × V)} (h : PySem.W.EachIs (fun v (z : D × V) => RelV z.2 v) out l) : Vals (l.map (·.2)) out := by
  induction h with
  | nil => exact .nil
  | cons h t ih => exact .cons h ih
theorem call_sorted_t (hu : X.A.units + 65 < cLine) : CallR X (.builtin "sorted") (fun vs H Q => ∃ (a : Addr) (zs : List (D × V)), vs = [.ref a] ∧ SqT X.K H a (zs.map (·.2)) ∧ DpAll X.K H (zs.map (·.2)) (zs.map fun z => py z.1) ∧
    PySem.W.AllAlike (zs.map fun z => py z.1) ∧ PySem.W.Sortable (zs.map fun z => py z.1) ∧ PyData.depthAll (zs.map fun z => py z.1) ≤ 61 ∧
    ∀ p, H p = none → Q (.ref p) (upd H p (.lst ((zs.mergeSort (PySem.W.dataLe false fun z => py z.1)).map (·.2))))) := by
  intro pins s σ H vs us Q I rs h
  obtain ⟨a, zs, rfl, hs, da, al, so, dep, q⟩ := h
  obtain rfl := Vals.ref1 rs
  obtain ⟨its, rv, pl, hz⟩ := I.tuple hs
  obtain ⟨as, r⟩ := Dp.readsAll I _ _ _ da rv
  refine sorted_tuple (R := fun v (z : D × V) => RelV z.2 v) (bs := zs) (enc := fun z => py z.1) pl (each_rel rv) (each_reads r) al so (by simpa using hz)
    (fun z hz => by have := depth_mem _ dep _ (List.mem_map.mpr ⟨z, hz, rfl⟩); omega) fun out h1 h2 ep hlen ho k1 k2 he => ?_
  have I1 : Inv X pins σ H { s with heap := h1 } := I.kept (t' := s.toks) k1
  have hl2 : ((zs.mergeSort (PySem.W.dataLe false fun z => py z.1)).map (·.2)).length ≤ sizeLine := by
    rw [List.length_map, List.length_mergeSort]; simpa using hz
  exact ⟨.ref _, upd H h1.objs.size (.lst ((zs.mergeSort (PySem.W.dataLe false fun z => py z.1)).map (·.2))), I1.laid (t' := s.toks) k2 (Nat.le_refl _) ⟨hl2, out, ep, each_back ho, he⟩, rfl, q _ (I1.hok.fresh (Nat.le_refl _))⟩
def wSort : List D → (D → Prop) → Prop
  | [x], post => ∃ ds, seqD x = some ds ∧ Fit x ∧ PySem.W.AllAlike (pys ds) ∧ PySem.W.Sortable (pys ds) ∧ post (.lst (sortD ds))
  | _, _ => False
theorem rs_pairs {dk : Addr} {P : Hp} : ∀ zs : List (D × V), (∀ z ∈ zs, R dk P z.1 z.2) → Rs dk P (zs.map (·.1)) (zs.map (·.2))
  | [], _ => Rs.nil
  | z :: zs, h => Rs.cons (h z List.mem_cons_self) (rs_pairs zs fun y hy => h y (List.mem_cons_of_mem _ hy))
theorem rs_zip {dk : Addr} {P : Hp} {es : List D} {xs : List V} (r : Paired (R dk P) es xs) : ∀ z ∈ es.zip xs, R dk P z.1 z.2 := by
  induction r with
  | nil => intro z hz; cases hz
  | cons q t ih =>
    intro z hz
    rcases List.mem_cons.mp hz with e | hz
    · rw [e]; exact q
    · exact ih z hz
theorem sort_S (hu : X.A.units + 65 < cLine) : CallS X W (.builtin "sorted") 1 wSort := by
  refine ⟨_, (call_sorted_d hu).or (call_sorted_t hu), fun ds vs P H post Q hp rs hb z => ?_⟩
  match ds, hb with
  | [x], hb =>
    obtain ⟨es, e, f, al, so, hb⟩ := hb
    obtain ⟨v, rfl, r0⟩ := p1 rs
    obtain ⟨a, xs, rfl, sq, r, sh⟩ := RB.sqd (X := X) hp f r0 e
    have hl := r.len
    have m2 : (es.zip xs).map (·.2) = xs := List.map_snd_zip (by omega)
    have m1 : (es.zip xs).map (fun z => py z.1) = pys es := by
      rw [pys_map, show (fun z : D × V => py z.1) = py ∘ Prod.fst from rfl, ← List.map_map, List.map_fst_zip (by omega)]
    have rs2 := rs_pairs ((es.zip xs).mergeSort (PySem.W.dataLe false fun z => py z.1)) fun z hz => rs_zip (Rs.iff.mp r) z (List.mem_mergeSort.mp hz)
    have es2 : ((es.zip xs).mergeSort (PySem.W.dataLe false fun z : D × V => py z.1)).map (·.1) = sortD es := by
      rw [List.map_mergeSort (s := PySem.W.dataLe false py)]
      · rw [List.map_fst_zip (by omega)]; rfl
      · intro a _ b _; rfl
    rw [es2] at rs2
    have fin : ∀ p, H p = none → Q (.ref p) (upd H p (.lst (((es.zip xs).mergeSort (PySem.W.dataLe false fun z => py z.1)).map (·.2)))) := fun p np => z _ _ _ _ _ hb (.lst hp np rs2)
    rcases sh with ⟨_, q⟩ | ⟨_, q⟩
    · exact .inl ⟨a, es.zip xs, rfl, by rw [m2]; exact SqL.of q, by rw [m1, m2]; exact sq.2.1, by rw [m1]; exact al, by rw [m1]; exact so, by rw [m1]; exact sq.2.2.2, fin⟩
    · exact .inr ⟨a, es.zip xs, rfl, by rw [m2]; exact SqT.of q, by rw [m1, m2]; exact sq.2.1, by rw [m1]; exact al, by rw [m1]; exact so, by rw [m1]; exact sq.2.2.2, fin⟩
end
end VI
set_option Elab.async false
set_option linter.all false
set_option maxRecDepth 100000
set_option maxHeartbeats 2000000
/-! VJ: the small syntax, what it means on data -/
namespace VI
open PySem PySem.Spec PyProof.Rows L2

inductive Blt where
  | len | tuple | list | all | any | int | abs | repr | min | max | sorted
def Blt.nm : Blt → Str
  | .len => "len" | .tuple => "tuple" | .list => "list" | .all => "all" | .any => "any" | .int => "int" | .abs => "abs" | .repr => "repr" | .min => "min" | .max => "max" | .sorted => "sorted"
def Blt.ty : Blt → Bool
  | .tuple | .list | .int => true
  | _ => false
def Blt.id : Blt → String
  | .len => "len" | .tuple => "tuple" | .list => "list" | .all => "all" | .any => "any" | .int => "int" | .abs => "abs" | .repr => "repr" | .min => "min" | .max => "max" | .sorted => "sorted"
def Blt.val (b : Blt) : Value := if b.ty then .type b.id else .builtin b.id
def Blt.n : Blt → Nat
  | .list | .sorted => 1
  | _ => 0
def Blt.w : Blt → List D → (D → Prop) → Prop
  | .len => wLen | .tuple => wTup | .list => wLst | .all => wAll | .any => wAny | .int => wInt | .abs => wAbs | .repr => wRepr | .min => wMin | .max => wMax | .sorted => wSort

/-- what is walked -/
inductive Src where
  | seq | rng1 | rng2 | enum | zip
/-- where an item goes -/
inductive Tg where
  | one (i : Nat) | many (is : List Nat)
def Tg.slots : Tg → List Nat
  | .one i => [i]
  | .many is => is

mutual
inductive CE where
  | var (i : Nat)
  | int (i : Int) | bl (b : Bool) | non | str (x : Str)
  | tup (es : CL) | lst (es : CL)
  | bin (o : Operator) (a b : CE) | binL (o : Operator) (a b : CE)
  | neg (a : CE)
  | cmp (o : CmpOp) (a b : CE)
  | and_ (es : CL) | or_ (es : CL) | not_ (a : CE)
  | ite (c a b : CE)
  | ix (a b : CE)
  | sl (l : Bool) (a lo hi : CE) | gap
  | rev (l : Bool) (a : CE)
  | call (f : Nat) (es : CL)
  | callK (c : Nat) (es ks : CL)
  | blt (b : Blt) (es : CL)
  | rng1 (t : Bool) (a : CE) | rng2 (t : Bool) (a b : CE)
  | sortK (e : CE) (f : Nat)
  | lc (s : Src) (its : CL) (tg : Tg) (cs : CL) (e : CE)
  | lc2 (s : Src) (its : CL) (tg : Tg) (s2 : Src) (its2 : CL) (tg2 : Tg) (cs : CL) (e : CE)
  | dnT | dnK
inductive CL where
  | nil | cons (e : CE) (es : CL)
end

/-- a def's promise on data: the arguments, what is wanted of the value, of an exception -/
abbrev FSpec := List D → (D → Prop) → (XD → Prop) → Prop
/-- md: the parameters that must be shared (else they are read alone) -/
structure FI where
  md : List Bool
  dep : Nat
  sp : FSpec
/-- a call with keywords: the def, how many by place, the names, where each parameter's value stands -/
structure KI where
  f : Nat
  n : Nat
  ks : List Str
  pm : List Nat

/-- the items that are walked -/
def wSrc (s : Src) (ds : List D) (post : List D → Prop) : Prop := match s, ds with
  | .seq, [d] => ∃ es, seqD d = some es ∧ post es
  | .rng1, [.int n] => n < 2 ^ 62 ∧ -(2 ^ 62) ≤ n ∧ post ((List.range n.toNat).map fun i => .int (i : Nat))
  | .rng2, [.int a, .int b] => (-(2 ^ 62) ≤ a ∧ a < 2 ^ 62 ∧ -(2 ^ 62) ≤ b ∧ b < 2 ^ 62) ∧ post ((List.range (b - a).toNat).map fun i => .int (a + (i : Nat)))
  | .enum, [d] => ∃ es, seqD d = some es ∧ post (es.zipIdx.map fun p => .tup [.int (p.2 : Nat), p.1])
  | .zip, [a, b] => ∃ xs ys, seqD a = some xs ∧ seqD b = some ys ∧ post ((xs.zip ys).map fun p => .tup [p.1, p.2])
  | _, _ => False
def setAll : List Nat → List D → Env → Option Env
  | [], [], env => some env
  | i :: is, d :: ds, env => setAll is ds (env.set i (some d))
  | _, _, _ => none
def Tg.bind (t : Tg) (d : D) (env : Env) : Option Env := match t with
  | .one i => some (env.set i (some d))
  | .many is => (match d with | .tup ds => setAll is ds env | _ => none)
def wipeE (env : Env) : List Nat → Env
  | [] => env
  | i :: is => (wipeE env is).set i none
/-- the turns of a comprehension -/
def goLc (bind : D → Option Env) (cond : Env → (Bool → Prop) → Prop) (elt : Env → (D → Prop) → Prop) : List D → List D → (List D → Prop) → Prop
  | [], acc, post => post acc
  | d :: ds, acc, post => ∃ env, bind d = some env ∧ cond env fun b => if b = true then elt env fun y => goLc bind cond elt ds (acc ++ [y]) post else goLc bind cond elt ds acc post
/-- .. with a second source -/
def goLc2 (bind : D → Option Env) (src : Env → (List D → Prop) → Prop) (bind2 : D → Env → Option Env) (cond : Env → (Bool → Prop) → Prop) (elt : Env → (D → Prop) → Prop) : List D → List D → (List D → Prop) → Prop
  | [], acc, post => post acc
  | d :: ds, acc, post => ∃ env, bind d = some env ∧ src env fun es => goLc (fun e => bind2 e env) cond elt es acc fun acc' => goLc2 bind src bind2 cond elt ds acc' post
def truD : D → Option Bool
  | .non => some false
  | .bl b => some b
  | .int i => some (i != 0)
  | .lst ds => some (!ds.isEmpty)
  | .tup ds => some (!ds.isEmpty)
  | _ => none
def noX : XD → Prop := fun _ => False
def permD (ds : List D) (pm : List Nat) : List D := pm.map fun i => ds.getD i .non
mutual
/-- no lists within -/
def nl : PyData → Bool
  | .list _ => false
  | .dict _ => false
  | .tuple ds => nls ds
  | _ => true
def nls : List PyData → Bool
  | [] => true
  | d :: ds => nl d && nls ds
end
/-- (len(lot), lot) -/
def lenD : D → Nat
  | .tup ds => ds.length
  | _ => 0
def rankD (d : D) : PyData := .tuple [.int (lenD d : Nat), py d]
/-- sorted(xs, key=f), f told by rankD -/
def wSortK (d : D) (post : D → Prop) : Prop := ∃ (ds : List D), d = .lst ds ∧ Fit d ∧ (∀ e ∈ ds, (∃ xs, e = .tup xs) ∧ nl (py e) = true) ∧
  PySem.W.AllAlike (ds.map rankD) ∧ PySem.W.Sortable (ds.map rankD) ∧ post (.lst (ds.mergeSort (PySem.W.dataLe false rankD)))
/-- what an expression means: its value; as a test; as a part of a slice -/
structure Sm where
  e : Env → (D → Prop) → (XD → Prop) → Prop
  t : Env → (Bool → Prop) → (XD → Prop) → Prop
  o : Env → (Option Int → Prop) → (XD → Prop) → Prop
abbrev Sm.of (f : Env → (D → Prop) → (XD → Prop) → Prop) : Sm :=
  ⟨f, fun env post ex => f env (fun d => ∃ b, truD d = some b ∧ post b) ex, fun env post ex => f env (fun d => ∃ i, d = .int i ∧ post (some i)) ex⟩
/-- what a list of expressions means: the values; all of them as a test with and, with or; the same as values; as a comprehension's tests -/
structure SmL where
  l : Env → (List D → Prop) → (XD → Prop) → Prop
  nl : Bool
  at_ : Env → (Bool → Prop) → (XD → Prop) → Prop
  ot : Env → (Bool → Prop) → (XD → Prop) → Prop
  av : Env → (D → Prop) → (XD → Prop) → Prop
  ov : Env → (D → Prop) → (XD → Prop) → Prop
  cs : Env → (Bool → Prop) → (XD → Prop) → Prop
structure Tb where
  fs : List FI
  ks : List KI

def rngD (a b : Int) : List D := (List.range (b - a).toNat).map fun k => .int (a + (k : Nat))
mutual
def wE (T : Tb) : CE → Sm
  | .var i => .of fun env post _ => ∃ d, env[i]? = some (some d) ∧ post d
  | .int i => .of fun _ post _ => post (.int i)
  | .bl b => .of fun _ post _ => post (.bl b)
  | .non => .of fun _ post _ => post .non
  | .str x => .of fun _ post _ => post (.str x)
  | .tup es => .of fun env post ex => (wL T es).l env (fun ds => ds.length ≤ sizeLine ∧ post (.tup ds)) ex
  | .lst es => .of fun env post ex => (wL T es).l env (fun ds => ds.length ≤ sizeLine ∧ post (.lst ds)) ex
  | .bin o a b => .of fun env post ex => (wE T a).e env (fun x => (wE T b).e env (fun y => wBin o x y post) ex) ex
  | .binL o a b => .of fun env post ex => (wE T a).e env (fun x => (wE T b).e env (fun y => wBinL o x y post) ex) ex
  | .neg a => .of fun env post ex => (wE T a).e env (fun x => ∃ i, x = .int i ∧ post (.int (-i))) ex
  | .cmp o a b => ⟨fun env post ex => (wE T a).e env (fun x => (wE T b).e env (fun y => wCmp o x y post) ex) ex,
      fun env post ex => (wE T a).e env (fun x => (wE T b).e env (fun y => wCmp o x y fun z => ∃ c, z = .bl c ∧ post c) ex) ex, fun _ _ _ => False⟩
  | .and_ es => ⟨(wL T es).av, (wL T es).at_, fun _ _ _ => False⟩
  | .or_ es => ⟨(wL T es).ov, (wL T es).ot, fun _ _ _ => False⟩
  | .not_ a => ⟨fun env post ex => (wE T a).e env (fun x => ∃ b, x = .bl b ∧ post (.bl (!b))) ex, fun env post ex => (wE T a).t env (fun b => post (!b)) ex, fun _ _ _ => False⟩
  | .ite c a b => .of fun env post ex => (wE T c).t env (fun t => if t = true then (wE T a).e env post ex else (wE T b).e env post ex) ex
  | .ix a b => .of fun env post ex => (wE T a).e env (fun x => (wE T b).e env (fun y => wIx x y post) ex) ex
  | .sl l a lo hi => .of fun env post ex => (wE T a).e env (fun x => (wE T lo).o env (fun i => (wE T hi).o env (fun j => if l = true then wSlL x i j post else wSl x i j post) ex) ex) ex
  | .gap => ⟨fun _ _ _ => False, fun _ _ _ => False, fun _ post _ => post none⟩
  | .rev l a => .of fun env post ex => (wE T a).e env (fun x => match x, l with | .tup ds, false => post (.tup ds.reverse) | .lst ds, true => post (.lst ds.reverse) | _, _ => False) ex
  | .call f es => .of fun env post ex => (wL T es).l env (fun ds => ∃ fi, T.fs[f]? = some fi ∧ fi.sp ds post ex) ex
  | .callK c es ks => .of fun env post ex => (wL T es).l env (fun ds => (wL T ks).l env (fun ds2 => ∃ ki fi, T.ks[c]? = some ki ∧ T.fs[ki.f]? = some fi ∧ fi.sp (permD (ds ++ ds2) ki.pm) post ex) ex) ex
  | .blt b es => .of fun env post ex => (wL T es).l env (fun ds => b.w ds post) ex
  | .rng1 t a => .of fun env post ex => (wE T a).e env (fun x => ∃ i, x = .int i ∧ 0 ≤ i ∧ i ≤ 100000 ∧ if t = true then post (.tup (rngD 0 i)) else post (.lst (rngD 0 i))) ex
  | .rng2 t a b => .of fun env post ex => (wE T a).e env (fun x => (wE T b).e env (fun y => ∃ i j, x = .int i ∧ y = .int j ∧ (0 ≤ i ∧ i ≤ 100000 ∧ 0 ≤ j ∧ j ≤ 100000) ∧ if t = true then post (.tup (rngD i j)) else post (.lst (rngD i j))) ex) ex
  | .sortK e f => .of fun env post ex => (wE T e).e env (fun d => wSortK d post) ex
  | .lc s its tg cs e => .of fun env post ex => (wL T its).l env (fun ds => wSrc s ds fun xs => xs.length ≤ 100000 ∧
      goLc (fun d => tg.bind d (wipeE env tg.slots)) (fun env' p => (wL T cs).cs env' p noX) (fun env' p => (wE T e).e env' p noX) xs [] fun ys => post (.lst ys)) ex
  | .lc2 s its tg s2 its2 tg2 cs e => .of fun env post ex => (wL T its).l env (fun ds => wSrc s ds fun xs => xs.length ≤ 1000 ∧
      goLc2 (fun d => tg.bind d (wipeE env (tg.slots ++ tg2.slots))) (fun env' p => (wL T its2).l env' (fun ds2 => wSrc s2 ds2 fun ys => ys.length ≤ 1000 ∧ p ys) noX)
      (fun d env' => tg2.bind d (wipeE env' tg2.slots)) (fun env' p => (wL T cs).cs env' p noX) (fun env' p => (wE T e).e env' p noX) xs [] fun ys => post (.lst ys)) ex
  | .dnT => .of fun _ post _ => post (.dT [] [])
  | .dnK => .of fun _ post _ => post (.dK [] [])
def wL (T : Tb) : CL → SmL
  | .nil => ⟨fun _ post _ => post [], true, fun _ _ _ => False, fun _ _ _ => False, fun _ _ _ => False, fun _ _ _ => False, fun _ post _ => post true⟩
  | .cons e es => ⟨fun env post ex => (wE T e).e env (fun d => (wL T es).l env (fun ds => post (d :: ds)) ex) ex, false,
      fun env post ex => if (wL T es).nl = true then (wE T e).t env post ex else (wE T e).t env (fun b => if b = true then (wL T es).at_ env post ex else post false) ex,
      fun env post ex => if (wL T es).nl = true then (wE T e).t env post ex else (wE T e).t env (fun b => if b = true then post true else (wL T es).ot env post ex) ex,
      fun env post ex => if (wL T es).nl = true then (wE T e).e env post ex else (wE T e).e env (fun d => ∃ c, d = .bl c ∧ if c = true then (wL T es).av env post ex else post (.bl false)) ex,
      fun env post ex => if (wL T es).nl = true then (wE T e).e env post ex else (wE T e).e env (fun d => ∃ c, d = .bl c ∧ if c = true then post (.bl true) else (wL T es).ov env post ex) ex,
      fun env post ex => (wE T e).t env post ex⟩
end
example (T : Tb) (env : Env) (post : D → Prop) (ex : XD → Prop) : (wE T (.int 3)).e env post ex = post (.int 3) := rfl
end VI
set_option Elab.async false
set_option linter.all false
set_option maxRecDepth 100000
set_option maxHeartbeats 2000000
/-! VK: the checker: an expression of the program is what a term of the small syntax says -/
namespace VI
open PySem PySem.Spec PyProof.Rows L2

/-! ### plain forms -/
def nst : Expr → Bool
  | .Starred _ _ => false
  | _ => true
def nslc : Expr → Bool
  | .Slice _ _ _ _ => false
  | _ => true
def nset : Expr → Bool
  | .Set _ _ _ => false
  | _ => true
theorem star_cons {e : Expr} {es : List Expr} {env : PySem.Env} (h : nst e = true) : starEach (e :: es) env = (false, eval e env) :: starEach es env := by
  cases e <;> first | rfl | cases h
theorem star_any {pos : Pos} {env : PySem.Env} : ∀ {es : List Expr}, es.all nst = true → (backTo pos (starEach es env)).any (·.1) = false
  | [], _ => rfl
  | e :: es, h => by
    have h : nst e = true ∧ es.all nst = true := by simpa using h
    rw [star_cons h.1]
    show (false || (backTo pos (starEach es env)).any (·.1)) = false
    rw [star_any h.2]; rfl
theorem plain_ix {b : Expr} (h : nslc b = true) : PlainIx b := by
  intro o i
  cases b <;> first | rfl | cases h
theorem no_marks {o : CmpOp} {b : Expr} (h : nset b = true) : behindInMarks o b = false := by
  cases b <;> first | rfl | cases h
theorem no_fold {b : Expr} {env : PySem.Env} (h : nset b = true) (x : Value) : foldedSetIterable b env x = pure x := by
  cases b <;> first | rfl | cases h

/-! ### the configuration -/
inductive Md where | v | b | t
def Md.nt : Md → Bool
  | .t => false
  | _ => true
def Md.isT : Md → Bool
  | .t => true
  | _ => false
def Md.neg : Md → Md
  | .t => .t
  | _ => .b
def Md.low : Md → Md
  | .b => .b
  | _ => .v
structure Cf where
  N : List Str
  sc : Scope
  fb : Str → Bool
  fs : List (Str × List Bool × Nat)
  ks : List (Nat × Nat × List Str × List Nat)
  ky : List Nat
  sv : Nat → Bool
  sb : Nat → Bool

def Cf.use (C : Cf) (i : Nat) : Md → Bool
  | .v => C.sv i
  | _ => C.sv i || C.sb i
def dep (fs : List (Str × List Bool × Nat)) : CE → Nat
  | .lst _ | .binL _ _ _ | .lc _ _ _ _ _ | .lc2 _ _ _ _ _ _ _ _ | .sortK _ _ | .dnT | .dnK => 1
  | .sl l _ _ _ => if l = true then 1 else 0
  | .rev l _ => if l = true then 1 else 0
  | .rng1 t _ => if t = true then 0 else 1
  | .rng2 t _ _ => if t = true then 0 else 1
  | .blt b _ => b.n
  | .call f _ => (match fs[f]? with | some (_, _, dp) => if dp = 1 then 1 else 0 | none => 0)
  | .ite _ a b => if dep fs a = 1 then (if dep fs b = 1 then 1 else 0) else 0
  | _ => 0
theorem dep_le {fs : List (Str × List Bool × Nat)} (e : CE) : dep fs e = 0 ∨ dep fs e = 1 := by
  unfold dep
  split
  any_goals (first | exact .inl rfl | exact .inr rfl)
  all_goals (first | (split <;> first | exact .inl rfl | exact .inr rfl) | skip)
  · rename_i b _
    cases b <;> first | exact .inl rfl | exact .inr rfl
  · split
    · split <;> first | exact .inl rfl | exact .inr rfl
    · exact .inl rfl
  · split
    · split <;> first | exact .inl rfl | exact .inr rfl
    · exact .inl rfl

def glb (sc : Scope) (x : Str) : Bool := decide (sc.names.lookup x = some .globalImplicit) && !(x == ("__debug__" : Str))
def visb (sc : Scope) (x : Str) : Bool := (match sc.names.lookup x with | some .local => true | some .cell => true | some .free => true | _ => false) && !(x == ("__debug__" : Str)) && !(x == ("__classdict__" : Str))
/-- a name may be set -/
def setb (C : Cf) (i : Nat) (x : Str) : Bool := decide (C.N[i]? = some x) && (match C.sc.names.lookup x with | some .local => true | some .cell => C.fb x | _ => false)
def chkTs (C : Cf) : List Nat → List Expr → Bool
  | [], [] => true
  | i :: is, .Name x _ :: es => setb C i x && chkTs C is es
  | _, _ => false
def chkTg (C : Cf) : Tg → Expr → Bool
  | .one i, .Name x _ => setb C i x
  | .many is, .Tuple es _ _ => chkTs C is es
  | _, _ => false
def Cf.see (C : Cf) (is : List Nat) : Cf := { C with sv := fun i => decide (i ∈ is) || C.sv i }
/-- in a block -/
def Cf.blk (C : Cf) (scope : Scope) (is : List Nat) : Cf := { C with sc := relS scope C.sc, fb := fun x => scope.names.lookup x == some .cell, sv := fun i => decide (i ∈ is) || C.sv i }
def ownOf (N : List Str) (is : List Nat) : List (Str × Nat) := is.map fun i => (N.getD i "", i)
def okBin : Operator → Bool
  | .MatMult | .Div | .BitOr | .BitXor => false
  | _ => true
def okBinL : Operator → Bool
  | .Add | .Mult => true
  | _ => false
def srcE (sc : Scope) : Src → Expr → Option (List Expr)
  | .seq, e => if nst e = true then some [e] else none
  | .rng1, .Call (.Name x _) [a] [] _ => if decide (x = "range") && glb sc x then some [a] else none
  | .rng2, .Call (.Name x _) [a, b] [] _ => if decide (x = "range") && glb sc x then some [a, b] else none
  | .enum, .Call (.Name x _) [a] [] _ => if decide (x = "enumerate") && glb sc x then some [a] else none
  | _, _ => none
def Src.n : Src → Nat
  | .rng2 | .zip => 2
  | _ => 1
/-- enumerate and zip want a tuple of names -/
def Src.tg : Src → Expr → Bool
  | .enum, .Tuple _ _ _ => true
  | .zip, .Tuple _ _ _ => true
  | .enum, _ => false
  | .zip, _ => false
  | _, _ => true
def isNil : CL → Bool
  | .nil => true
  | _ => false
def isGap : CE → Bool
  | .gap => true
  | _ => false
def le1 : CL → Bool
  | .nil => true
  | .cons _ .nil => true
  | _ => false
def optc (g : Bool) (f : Expr → Bool) : Option Expr → Bool
  | none => g
  | some y => f y
def isOne : Expr → Bool
  | .UnaryOp .USub (.Constant (.int 1) _ _) _ => true
  | _ => false
def kwN : Keyword → Option Str
  | ⟨n, _, _⟩ => n
def kwV : Keyword → Expr
  | ⟨_, v, _⟩ => v
/-- the modes of a call's arguments as they are written -/
def amd (n : Nat) (pm : List Nat) (md : List Bool) : List Bool := (List.range n).map fun j => md.getD (pm.idxOf j) true

mutual
def chkE : CE → Cf → Md → Expr → Bool
  | .var i, C, m, e => (match e with
    | .Name x _ => decide (C.N[i]? = some x) && visb C.sc x && C.use i m
    | _ => false)
  | .int i, _, _, e => (match e with | .Constant (.int j) _ _ => decide (i = j) | _ => false)
  | .bl b, _, _, e => (match e with | .Constant (.bool c) _ _ => decide (b = c) | _ => false)
  | .non, _, _, e => (match e with | .Constant .none _ _ => true | _ => false)
  | .str x, _, _, e => (match e with | .Constant (.str y) _ _ => decide (x = y) | _ => false)
  | .tup es, C, _, e => (match e with | .Tuple xs _ _ => chkL es C (List.replicate xs.length true) xs | _ => false)
  | .lst es, C, _, e => (match e with | .List xs _ => chkL es C (List.replicate xs.length true) xs | _ => false)
  | .bin o a b, C, _, e => (match e with | .BinOp x o' y _ => decide (o = o') && okBin o && chkE a C .b x && chkE b C .b y | _ => false)
  | .binL o a b, C, _, e => (match e with | .BinOp x o' y _ => decide (o = o') && okBinL o && chkE a C .b x && chkE b C .b y | _ => false)
  | .neg a, C, m, e => (match e with | .UnaryOp .USub x _ => m.nt && chkE a C .b x | _ => false)
  | .cmp o a b, C, _, e => (match e with | .Compare x [o'] [y] _ => decide (o = o') && nset y && chkE a C .b x && chkE b C .b y | _ => false)
  | .and_ es, C, m, e => (match e with | .BoolOp .And xs _ => !isNil es && chkA es C m.isT xs | _ => false)
  | .or_ es, C, m, e => (match e with | .BoolOp .Or xs _ => !isNil es && chkA es C m.isT xs | _ => false)
  | .not_ a, C, m, e => (match e with | .UnaryOp .Not x _ => chkE a C m.neg x | _ => false)
  | .ite c a b, C, m, e => (match e with | .IfExp x y z _ => m.nt && chkE c C .t x && chkE a C m.low y && chkE b C m.low z | _ => false)
  | .ix a b, C, _, e => (match e with | .Subscript x y _ => nslc y && chkE a C .b x && chkE b C .b y | _ => false)
  | .sl _ a lo hi, C, _, e => (match e with
    | .Subscript x (.Slice l h none _) _ => chkE a C .b x && optc (isGap lo) (chkE lo C .b) l && optc (isGap hi) (chkE hi C .b) h
    | _ => false)
  | .gap, _, _, _ => false
  | .rev _ a, C, _, e => (match e with | .Subscript x (.Slice none none (some y) _) _ => isOne y && chkE a C .b x | _ => false)
  | .call f es, C, _, e => (match e with
    | .Call (.Name x _) xs [] _ => (match C.fs[f]? with | some (nm, md, dp) => decide (x = nm) && glb C.sc x && decide (dp ≤ 1) && chkL es C md xs | none => false)
    | _ => false)
  | .callK c es ks, C, _, e => (match e with
    | .Call (.Name x _) xs kws _ => (match C.ks[c]? with
      | some (f, n, nms, pm) => (match C.fs[f]? with
        | some (nm, md, dp) => decide (x = nm) && glb C.sc x && decide (dp = 0) && decide (xs.length = n) && decide (kws.map kwN = nms.map some) && decide (nms ≠ []) &&
          decide (pm.map (fun j => (amd (n + nms.length) pm md).getD j true) = md) && chkL es C ((amd (n + nms.length) pm md).take n) xs && chkL ks C ((amd (n + nms.length) pm md).drop n) (kws.map kwV)
        | none => false)
      | none => false)
    | _ => false)
  | .blt b es, C, _, e => (match e with
    | .Call (.Name x _) xs [] _ => decide (x = b.nm) && glb C.sc x && !isNil es && chkL es C (List.replicate xs.length false) xs
    | _ => false)
  | .rng1 t a, C, _, e => (match e with
    | .Call (.Name x _) [.Call (.Name y _) [z] [] _] [] _ => decide (x = if t = true then "tuple" else "list") && decide (y = "range") && glb C.sc x && glb C.sc y && nst z && chkE a C .b z
    | _ => false)
  | .rng2 t a b, C, _, e => (match e with
    | .Call (.Name x _) [.Call (.Name y _) [z, u] [] _] [] _ => decide (x = if t = true then "tuple" else "list") && decide (y = "range") && glb C.sc x && glb C.sc y && nst z && nst u && chkE a C .b z && chkE b C .b u
    | _ => false)
  | .sortK a f, C, _, e => (match e with
    | .Call (.Name x _) [z] [⟨some k, .Name y _, _⟩] _ => decide (x = "sorted") && decide (k = "key") && glb C.sc x && nst z && (match C.fs[f]? with
      | some (nm, _, _) => decide (y = nm) && decide (f ∈ C.ky) && glb C.sc y && chkE a C .b z
      | none => false)
    | _ => false)
  | .lc s its tg cs y, C, _, e => (match e with
    | .ListComp elt [⟨tge, iter, ifs, 0⟩] scope _ => (match srcE C.sc s iter with
      | some xs => nset iter && s.tg tge && chkL its C (List.replicate s.n false) xs && blkC C.N C.sc scope (ownOf C.N tg.slots) && chkTg (C.blk scope tg.slots) tg tge && le1 cs &&
        chkA cs (C.blk scope tg.slots) true ifs && chkE y (C.blk scope tg.slots) .v elt
      | none => false)
    | _ => false)
  | .lc2 s its tg s2 its2 tg2 cs y, C, _, e => (match e with
    | .ListComp elt [⟨tge, iter, [], 0⟩, ⟨tge2, iter2, ifs, 0⟩] scope _ => (match srcE C.sc s iter with
      | some xs => (match srcE (relS scope C.sc) s2 iter2 with
        | some xs2 => nset iter && nset iter2 && s.tg tge && s2.tg tge2 && chkL its C (List.replicate s.n false) xs && blkC C.N C.sc scope (ownOf C.N (tg.slots ++ tg2.slots)) &&
          chkTg (C.blk scope (tg.slots ++ tg2.slots)) tg tge && chkL its2 (C.blk scope (tg.slots ++ tg2.slots)) (List.replicate s2.n true) xs2 && chkTg (C.blk scope (tg.slots ++ tg2.slots)) tg2 tge2 && le1 cs &&
          chkA cs (C.blk scope (tg.slots ++ tg2.slots)) true ifs && chkE y (C.blk scope (tg.slots ++ tg2.slots)) .v elt
        | none => false)
      | none => false)
    | _ => false)
  | .dnT, _, _, e => (match e with | .Dict [] [] _ => true | _ => false)
  | .dnK, _, _, e => (match e with | .Dict [] [] _ => true | _ => false)
def chkL : CL → Cf → List Bool → List Expr → Bool
  | .nil, _, ms, xs => (match ms, xs with | [], [] => true | _, _ => false)
  | .cons e es, C, ms, xs => (match ms, xs with | m :: ms, x :: xs => nst x && chkE e C (if m = true then .v else .b) x && chkL es C ms xs | _, _ => false)
/-- all as tests, or all as values -/
def chkA : CL → Cf → Bool → List Expr → Bool
  | .nil, _, _, xs => (match xs with | [] => true | _ => false)
  | .cons e es, C, t, xs => (match xs with | x :: xs => chkE e C (if t = true then .t else .v) x && chkA es C t xs | _ => false)
end
end VI
set_option Elab.async false
set_option linter.all false
set_option maxRecDepth 100000
set_option maxHeartbeats 2000000
/-! VL: what is to be shown of an expression -/
namespace VI
open PySem PySem.Spec PyProof.Rows L2

/-- an exception's object, by its class and what it was made with -/
abbrev RXT := XD → Value → Option Addr → Hp → Prop
/-- arguments: shared where m is true, else read alone -/
def RM (W : Wd) (P H : Hp) : List Bool → List D → List V → Prop
  | [], ds, vs => ds = [] ∧ vs = []
  | m :: ms, ds, vs => ∃ d ds' v vs', ds = d :: ds' ∧ vs = v :: vs' ∧ (if m = true then R W.dk P d v else RB W P H d v) ∧ RM W P H ms ds' vs'
/-- a def's promise -/
def SpV (W : Wd) (RX : RXT) (fi : FI) : Sp := fun xs H Q e => ∃ (P : Hp) (ds : List D) (post : D → Prop) (ex : XD → Prop), HP W P H ∧ RM W P H fi.md ds xs ∧ fi.sp ds post ex ∧
  (∀ d v P' H' F, post d → Res W fi.dep P H d v P' H' F → Q v H') ∧ (∀ x c dd P' H', ex x → Stp W P H P' H' → RX x c dd H' → e c dd H')
section
variable {W : Wd} {P H P' H' : Hp}
theorem RM.step (s : Stp W P H P' H') : ∀ {ms : List Bool} {ds : List D} {vs : List V}, RM W P H ms ds vs → RM W P' H' ms ds vs
  | [], _, _, h => h
  | m :: ms, _, _, h => by
    obtain ⟨d, ds', v, vs', rfl, rfl, h1, h2⟩ := h
    refine ⟨d, ds', v, vs', rfl, rfl, ?_, RM.step s h2⟩
    cases m with
    | true => exact R.mono s.up _ _ h1
    | false => exact RB.step s h1
theorem RM.len : ∀ {ms : List Bool} {ds : List D} {vs : List V}, RM W P H ms ds vs → ds.length = ms.length ∧ vs.length = ms.length
  | [], _, _, h => by obtain ⟨rfl, rfl⟩ := h; exact ⟨rfl, rfl⟩
  | m :: ms, _, _, h => by
    obtain ⟨d, ds', v, vs', rfl, rfl, h1, h2⟩ := h
    exact ⟨congrArg (· + 1) (RM.len h2).1, congrArg (· + 1) (RM.len h2).2⟩
theorem RM.rs : ∀ {n : Nat} {ds : List D} {vs : List V}, RM W P H (List.replicate n true) ds vs → Rs W.dk P ds vs
  | 0, _, _, h => by obtain ⟨rfl, rfl⟩ := h; exact Rs.nil
  | n + 1, _, _, h => by
    obtain ⟨d, ds', v, vs', rfl, rfl, h1, h2⟩ := h
    exact .cons h1 (RM.rs h2)
theorem RM.rb : ∀ {n : Nat} {ds : List D} {vs : List V}, RM W P H (List.replicate n false) ds vs → Paired (RB W P H) ds vs
  | 0, _, _, h => by obtain ⟨rfl, rfl⟩ := h; exact .nil
  | n + 1, _, _, h => by
    obtain ⟨d, ds', v, vs', rfl, rfl, h1, h2⟩ := h
    exact .cons h1 (RM.rb h2)
end

/-- the slots' values -/
structure ER (W : Wd) (C : Cf) (P H : Hp) (σ : L2.St) (env : Env) : Prop where
  ln : env.length = σ.length
  v : ∀ (i : Nat) d, C.sv i = true → env[i]? = some (some d) → ∃ v, σ[i]? = some (some v) ∧ R W.dk P d v
  b : ∀ (i : Nat) d, C.sb i = true → env[i]? = some (some d) → ∃ v, σ[i]? = some (some v) ∧ RB W P H d v
theorem ER.step {W : Wd} {C : Cf} {P H P' H' : Hp} {σ : L2.St} {env : Env} (s : Stp W P H P' H') (h : ER W C P H σ env) : ER W C P' H' σ env :=
  ⟨h.ln, fun i d a b => (h.v i d a b).imp fun v z => ⟨z.1, R.mono s.up _ _ z.2⟩, fun i d a b => (h.b i d a b).imp fun v z => ⟨z.1, z.2.step s⟩⟩

/-- a def that is (len(lot), lot), as a key -/
def RankFn (P : Program) (w : World) (K : PySem.W.Frag) (mg : Str → Option Value) (base : Heap) (nm : Str) : Prop := ∃ fa : Addr, mg nm = some (.ref fa) ∧ PySem.W.keepIn K (.ref fa) = true ∧
  ∀ (B : Around) (fr : List PySem.Env) (s : Shared) (h : Hp) (a : Addr) (its : List Value) (ds : List PyData), Room 3 B → Env0 P w K mg base B fr s h → IsTup s.heap a its.toArray → its.length = ds.length → its.length ≤ sizeLine → Reads s.heap (.ref a) (.tuple ds) [] →
    wpAny (model P w) B (call (.ref fa) [.ref a]) (PySem.W.KeyPure (.tuple [.int (ds.length : Nat), .tuple ds]) s) (fun _ _ => False) s
/-- the facts about a context -/
structure XF (W : Wd) (RX : RXT) (T : Tb) (k : Nat) (C : Cf) (X : Cx) (E : XK) : Prop where
  hN : X.N = C.N
  sc : X.env.scope = C.sc
  fb : X.fn = C.fb
  nd : C.N.Nodup
  gd : Gd X.A
  room : Room k X.A
  k5 : 5 ≤ k
  calm : X.calm = true
  ps : Passes (L2.CX X.prog X.w) X E
  bl : ∀ b : Blt, X.mg b.nm = none
  rg : X.mg "range" = none ∧ X.mg "enumerate" = none ∧ X.mg "zip" = none
  fns : ∀ (i : Nat) nm md dp, C.fs[i]? = some (nm, md, dp) → ∃ fi f fd ps, T.fs[i]? = some fi ∧ fi.md = md ∧ fi.dep = dp ∧ X.mg nm = some (.ref f) ∧ PySem.W.keepIn X.K (.ref f) = true ∧ Binds X.K fd ps [] ∧ ps.length = md.length ∧
    FnG X.prog X.w X.K X.mg X.base k f fd ps (SpV W RX fi)
  kws : ∀ (c : Nat) f n nms pm, C.ks[c]? = some (f, n, nms, pm) → T.ks[c]? = some ⟨f, n, nms, pm⟩ ∧ ∀ nm md dp, C.fs[f]? = some (nm, md, dp) → ∃ fi fa fd ps, T.fs[f]? = some fi ∧ fi.md = md ∧ fi.dep = dp ∧ X.mg nm = some (.ref fa) ∧
    PySem.W.keepIn X.K (.ref fa) = true ∧ KBn X.K fd ps n nms (fun us ws => pm.map fun i => (us ++ ws).getD i Value.none) (fun vs zs => pm.map fun i => (vs ++ zs).getD i V.non) ∧ FnG X.prog X.w X.K X.mg X.base k fa fd ps (SpV W RX fi)
  kys : ∀ (i : Nat) nm md dp, C.fs[i]? = some (nm, md, dp) → i ∈ C.ky → RankFn X.prog X.w X.K X.mg X.base nm
section
variable {W : Wd} {RX : RXT} {T : Tb} {k : Nat} {C : Cf} {X : Cx} {E : XK}
theorem XF.gl (F : XF W RX T k C X E) {x : Str} (h : glb C.sc x = true) : Gl X x ∧ (x == ("__debug__" : Str)) = false := by
  unfold glb at h
  have h : C.sc.names.lookup x = some .globalImplicit ∧ (x == ("__debug__" : Str)) = false := by simpa using h
  refine ⟨?_, h.2⟩
  show X.env.scope.names.lookup x = _
  rw [F.sc]; exact h.1
theorem XF.vis (F : XF W RX T k C X E) {x : Str} (h : visb C.sc x = true) : Vis X.env.scope x ∧ (x == ("__debug__" : Str)) = false ∧ (x == ("__classdict__" : Str)) = false := by
  unfold visb at h
  rw [Bool.and_eq_true, Bool.and_eq_true] at h
  obtain ⟨⟨h1, h2⟩, h3⟩ := h
  refine ⟨?_, by simpa using h2, by simpa using h3⟩
  rw [F.sc]
  unfold Vis
  split at h1 <;> first | (rename_i e; exact .inl e) | (rename_i e; exact .inr (.inl e)) | (rename_i e; exact .inr (.inr e)) | cases h1
theorem XF.set (F : XF W RX T k C X E) {i : Nat} {x : Str} (h : setb C i x = true) : X.N[i]? = some x ∧ L2.Loc X.env.scope x ∧ (X.fn x = true ∨ X.env.scope.names.lookup x = some .local) := by
  unfold setb at h
  rw [Bool.and_eq_true] at h
  obtain ⟨h1, h2⟩ := h
  refine ⟨by rw [F.hN]; simpa using h1, ?_, ?_⟩
  · rw [F.sc]; unfold L2.Loc
    split at h2 <;> first | (rename_i e; exact .inl e) | (rename_i e; exact .inr e) | cases h2
  · rw [F.sc, F.fb]
    split at h2 <;> first | (rename_i e; exact .inr e) | exact .inl h2 | cases h2
theorem XF.units (F : XF W RX T k C X E) : X.A.units + 65 < cLine := by have := F.room.un; omega
theorem XF.blk (F : XF W RX T k C X E) (s : Shared) (H : Hp) (scope : Scope) (D : Addr) (cl : List (Str × Addr)) (fp : List Addr) (is : List Nat) : XF W RX T k (C.blk scope is) (X.blk s H scope (compEnvC scope cl D X.env) fp) (fun _ _ _ => False) where
  hN := F.hN
  sc := by show relS scope X.env.scope = relS scope C.sc; rw [F.sc]
  fb := rfl
  nd := F.nd
  gd := F.gd
  room := F.room
  k5 := F.k5
  calm := F.calm
  ps := fun _ _ _ _ _ _ _ ⟨_, _, _, _, _, _, _, _, _, _, _, _, z⟩ => z
  bl := F.bl
  rg := F.rg
  fns := F.fns
  kws := F.kws
  kys := F.kys
end

/-! ### what is to be shown -/
def XH (W : Wd) (RX : RXT) (E : XK) (P H : Hp) (ex : XD → Prop) : Prop := ∀ x c dd P' H', ex x → Stp W P H P' H' → RX x c dd H' → E c dd H'
theorem XH.step {W : Wd} {RX : RXT} {E : XK} {P H P' H' : Hp} {ex : XD → Prop} (ok : W.ok H) (h : XH W RX E P H ex) (s : Stp W P H P' H') : XH W RX E P' H' ex := fun x c dd P2 H2 a b r => h x c dd P2 H2 a (s.trans ok b) r
theorem XH.no {W : Wd} {RX : RXT} {E : XK} {P H : Hp} : XH W RX E P H noX := fun _ _ _ _ _ z => z.elim
section
variable (W : Wd) (RX : RXT) (T : Tb) (C : Cf) (X : Cx) (E : XK)
/-- a value, its object owned up to depth n -/
def SE (e : Expr) (m : Sm) (n : Nat) : Prop := ∃ t : TE, PE X e t ∧ ∀ (σ : L2.St) (env : Env) (P H : Hp) (post : D → Prop) (ex : XD → Prop) (Q : VK), HP W P H → ER W C P H σ env → XH W RX E P H ex →
  m.e env post ex → (∀ d v P' H' F, post d → Res W n P H d v P' H' F → Q v H') → t σ H Q
/-- a value that is read -/
def SB (e : Expr) (m : Sm) : Prop := ∃ t : TE, PE X e t ∧ ∀ (σ : L2.St) (env : Env) (P H : Hp) (post : D → Prop) (ex : XD → Prop) (Q : VK), HP W P H → ER W C P H σ env → XH W RX E P H ex →
  m.e env post ex → (∀ d v P' H', post d → Stp W P H P' H' → RB W P' H' d v → Q v H') → t σ H Q
def ST (e : Expr) (m : Sm) : Prop := ∃ t : TT, PT X e t ∧ ∀ (σ : L2.St) (env : Env) (P H : Hp) (post : Bool → Prop) (ex : XD → Prop) (Q : Bool → Hp → Prop), HP W P H → ER W C P H σ env → XH W RX E P H ex →
  m.t env post ex → (∀ b P' H', post b → Stp W P H P' H' → Q b H') → t σ H Q
def SM (ms : List Bool) (es : List Expr) (m : SmL) : Prop := ∃ t : TA, PA X es t ∧ ∀ (σ : L2.St) (env : Env) (P H : Hp) (post : List D → Prop) (ex : XD → Prop) (Q : List V → Hp → Prop), HP W P H → ER W C P H σ env → XH W RX E P H ex →
  m.l env post ex → (∀ ds vs P' H', post ds → Stp W P H P' H' → RM W P' H' ms ds vs → Q vs H') → t σ H Q
end
section
variable {W : Wd} {RX : RXT} {T : Tb} {C : Cf} {X : Cx} {E : XK} {e : Expr} {m : Sm} {n : Nat}
/-- given up -/
theorem SE.val (h : SE W RX C X E e m n) : SE W RX C X E e m 0 := by
  obtain ⟨t, h1, h2⟩ := h
  exact ⟨t, h1, fun σ env P H post ex Q hp er xh hm q => h2 σ env P H post ex Q hp er xh hm fun d v P' H' F hd r => q d v _ H' emp hd (r.frz hp.ok)⟩
theorem Res.rb {P H P' H' F : Hp} {d : D} {v : V} (hn : n = 0 ∨ n = 1) (ok : W.ok H) (r : Res W n P H d v P' H' F) : RB W P' H' d v := by
  rcases hn with rfl | rfl
  · exact .inl r.r
  · obtain ⟨a, o, h1, h2, h3⟩ := r.ro
    subst h2
    have ha : one a o a ≠ none := by rw [one_at]; exact fun z => nomatch z
    exact .inr ⟨a, o, h1, r.fs a o one_at, fun z => W.has _ _ ok z (r.fn a ha), h3⟩
theorem SE.rb (hn : n = 0 ∨ n = 1) (h : SE W RX C X E e m n) : SB W RX C X E e m := by
  obtain ⟨t, h1, h2⟩ := h
  exact ⟨t, h1, fun σ env P H post ex Q hp er xh hm q => h2 σ env P H post ex Q hp er xh hm fun d v P' H' F hd r => q d v P' H' hd r.st (r.rb hn hp.ok)⟩
/-- a value as a test -/
def ptb : Expr → Bool
  | .BoolOp _ _ _ => false
  | .UnaryOp _ _ _ => false
  | .Compare _ _ _ _ => false
  | .NamedExpr _ _ _ => false
  | .IfExp _ _ _ _ => false
  | _ => true
theorem SB.test (h : SB W RX C X E e m) (hp : ptb e = true) (hm : ∀ env post ex, m.t env post ex → m.e env (fun d => ∃ b, truD d = some b ∧ post b) ex) : ST W RX C X E e m := by
  obtain ⟨t, h1, h2⟩ := h
  refine ⟨_, pt_truth h1 ?_, fun σ env P H post ex Q hp er xh ht q => h2 σ env P H _ ex _ hp er xh (hm env post ex ht) fun d v P' H' hd st r => ?_⟩
  · intro whole
    cases e <;> first | rfl | cases hp
  · obtain ⟨b, hb, hd⟩ := hd
    refine ⟨b, ?_, q b P' H' hd st⟩
    cases d with
    | non => obtain rfl := r.non; cases hb; rfl
    | bl c => obtain rfl := r.bl; cases hb; rfl
    | int i => obtain rfl := r.int; cases hb; rfl
    | tup ds =>
      cases hb
      obtain ⟨a, xs, rfl, h3, r3⟩ := r.tup
      refine .inr (.inl ⟨xs, SqT.of (st.hp.sub _ _ h3), ?_⟩)
      have := r3.len
      cases ds <;> cases xs <;> first | rfl | cases this
    | lst ds =>
      cases hb
      obtain ⟨a, xs, rfl, h3, r3⟩ := r.lst st.hp
      refine .inl ⟨xs, SqL.of h3, ?_⟩
      have := r3.len
      cases ds <;> cases xs <;> first | rfl | cases this
    | _ => cases hb
end
end VI
set_option Elab.async false
set_option linter.all false
set_option maxRecDepth 100000
set_option maxHeartbeats 2000000
/-! VM: expressions, one by one -/
namespace VI
open PySem PySem.Spec PyProof.Rows L2

section
variable (W : Wd) (RX : RXT) (T : Tb) (k : Nat)
def SndE (ce : CE) : Prop := ∀ {C : Cf} {X : Cx} {E : XK}, XF W RX T k C X E → ∀ e, (chkE ce C .v e = true → SE W RX C X E e (wE T ce) (dep C.fs ce)) ∧ (chkE ce C .b e = true → SB W RX C X E e (wE T ce)) ∧ (chkE ce C .t e = true → ST W RX C X E e (wE T ce))
/-- a test that holds whatever its 'whole' is -/
def SW (C : Cf) (X : Cx) (E : XK) (e : Expr) (m : Env → (Bool → Prop) → (XD → Prop) → Prop) : Prop := ∃ t : TT, PW X e t ∧ ∀ (σ : L2.St) (env : Env) (P H : Hp) (post : Bool → Prop) (ex : XD → Prop) (Q : Bool → Hp → Prop), HP W P H → ER W C P H σ env → XH W RX E P H ex →
  m env post ex → (∀ b P' H', post b → Stp W P H P' H' → Q b H') → t σ H Q
def SV (C : Cf) (X : Cx) (E : XK) (e : Expr) (m : Env → (D → Prop) → (XD → Prop) → Prop) : Prop := ∃ t : TE, PE X e t ∧ ∀ (σ : L2.St) (env : Env) (P H : Hp) (post : D → Prop) (ex : XD → Prop) (Q : VK), HP W P H → ER W C P H σ env → XH W RX E P H ex →
  m env post ex → (∀ d v P' H' F, post d → Res W 0 P H d v P' H' F → Q v H') → t σ H Q
def SC (C : Cf) (X : Cx) (E : XK) (es : List Expr) (m : Env → (Bool → Prop) → (XD → Prop) → Prop) : Prop := ∃ t : TT, PTs X es t ∧ ∀ (σ : L2.St) (env : Env) (P H : Hp) (post : Bool → Prop) (ex : XD → Prop) (Q : Bool → Hp → Prop), HP W P H → ER W C P H σ env → XH W RX E P H ex →
  m env post ex → (∀ b P' H', post b → Stp W P H P' H' → Q b H') → t σ H Q
def SK (C : Cf) (X : Cx) (E : XK) (ms : List Bool) (kws : List Keyword) (m : SmL) : Prop := ∃ t : TA, PK X kws t ∧ ∀ (σ : L2.St) (env : Env) (P H : Hp) (post : List D → Prop) (ex : XD → Prop) (Q : List V → Hp → Prop), HP W P H → ER W C P H σ env → XH W RX E P H ex →
  m.l env post ex → (∀ ds vs P' H', post ds → Stp W P H P' H' → RM W P' H' ms ds vs → Q vs H') → t σ H Q
def S1 (C : Cf) (X : Cx) (E : XK) (b : Bool) (e : Expr) (m : SmL) : Prop := ∃ t : TE, PE X e t ∧ ∀ (σ : L2.St) (env : Env) (P H : Hp) (post : List D → Prop) (ex : XD → Prop) (Q : VK), HP W P H → ER W C P H σ env → XH W RX E P H ex →
  m.l env post ex → (∀ d v P' H', post [d] → Stp W P H P' H' → (if b = true then R W.dk P' d v else RB W P' H' d v) → Q v H') → t σ H Q
def SndL (cl : CL) : Prop := ∀ {C : Cf} {X : Cx} {E : XK}, XF W RX T k C X E → (∀ ms es, chkL cl C ms es = true → SM W RX C X E ms es (wL T cl) ∧ (∀ e r, es = e :: r → nst e = true) ∧ es.all nst = true ∧ ms.length = es.length) ∧
  (∀ es, isNil cl = false → chkA cl C true es = true → (∀ pos, SW W RX C X E (.BoolOp .And es pos) (wL T cl).at_) ∧ (∀ pos, SW W RX C X E (.BoolOp .Or es pos) (wL T cl).ot)) ∧
  (∀ es, isNil cl = false → chkA cl C false es = true → (∀ pos, SV W RX C X E (.BoolOp .And es pos) (wL T cl).av) ∧ (∀ pos, SV W RX C X E (.BoolOp .Or es pos) (wL T cl).ov)) ∧
  (∀ es, le1 cl = true → chkA cl C true es = true → SC W RX C X E es (wL T cl).cs) ∧
  (∀ ms kws, chkL cl C ms (kws.map kwV) = true → SK W RX C X E ms kws (wL T cl)) ∧
  (∀ b x, chkL cl C [b] [x] = true → S1 W RX C X E b x (wL T cl))
end
section
variable {W : Wd} {RX : RXT} {T : Tb} {k : Nat}
theorem snd_plain {ce : CE} (h : ∀ {C : Cf} {X : Cx} {E : XK}, XF W RX T k C X E → ∀ e m, chkE ce C m e = true → SE W RX C X E e (wE T ce) (dep C.fs ce) ∧ (m = .t → ptb e = true))
    (ht : ∀ env post ex, (wE T ce).t env post ex → (wE T ce).e env (fun d => ∃ b, truD d = some b ∧ post b) ex := by intro _ _ _ z; exact z) : SndE W RX T k ce := by
  intro C X E F e
  refine ⟨fun c => (h F e _ c).1, fun c => (h F e _ c).1.rb (dep_le ce), fun c => ?_⟩
  exact ((h F e _ c).1.rb (dep_le ce)).test ((h F e _ c).2 rfl) ht
theorem SE.const {C : Cf} {X : Cx} {E : XK} {e : Expr} {m : Sm} {v : V} {d : D} (h : PE X e (tC v)) (r : ∀ P, R W.dk P d v) (hm : ∀ env post ex, m.e env post ex → post d) : SE W RX C X E e m 0 :=
  ⟨_, h, fun σ env P H post ex Q hp er xh z q => q d v P H emp (hm env post ex z) (.same hp (r P))⟩

theorem e_var {i : Nat} : SndE W RX T k (.var i) := by
  intro C X E F e
  have key : ∀ m, chkE (.var i) C m e = true → ∃ x pos, e = .Name x pos ∧ PE X e (tVar i) ∧ (C.use i m = true) := by
    intro m h
    cases e with
    | Name x pos =>
      have h : (decide (C.N[i]? = some x) && visb C.sc x && C.use i m) = true := h
      rw [Bool.and_eq_true, Bool.and_eq_true] at h
      obtain ⟨⟨h1, h2⟩, h3⟩ := h
      obtain ⟨v1, v2, v3⟩ := F.vis h2
      exact ⟨x, pos, rfl, pe_var (by rw [F.hN]; simpa using h1) v1 v2 v3, h3⟩
    | _ => cases h
  have kb : ∀ m, (m = .b ∨ m = .t) → chkE (.var i) C m e = true → SB W RX C X E e (wE T (.var i)) := by
    intro m hm h
    obtain ⟨x, pos, rfl, pe, z⟩ := key m h
    have z : C.sv i = true ∨ C.sb i = true := by
      rcases hm with rfl | rfl <;> simpa [Cf.use] using z
    refine ⟨_, pe, fun σ env P H post ex Q hp er xh ⟨d, hd, hq⟩ q => ?_⟩
    rcases z with z | z
    · obtain ⟨v, h1, h2⟩ := er.v i d z hd
      exact ⟨v, h1, q d v P H hq (.refl hp) (.inl h2)⟩
    · obtain ⟨v, h1, h2⟩ := er.b i d z hd
      exact ⟨v, h1, q d v P H hq (.refl hp) h2⟩
  refine ⟨fun h => ?_, kb .b (.inl rfl), fun h => ?_⟩
  · obtain ⟨x, pos, rfl, pe, z⟩ := key _ h
    refine ⟨_, pe, fun σ env P H post ex Q hp er xh ⟨d, hd, hq⟩ q => ?_⟩
    obtain ⟨v, h1, h2⟩ := er.v i d z hd
    exact ⟨v, h1, q d v P H emp hq (.same hp h2)⟩
  · obtain ⟨x, pos, rfl, _, _⟩ := key _ h
    exact (kb .t (.inr rfl) h).test rfl fun _ _ _ z => z
theorem e_int {i : Int} : SndE W RX T k (.int i) := snd_plain (fun {C X E} F e m h => by
  cases e with
  | Constant c j p =>
    cases c with
    | int j =>
      have h : decide (i = j) = true := h
      have h : i = j := by simpa using h
      subst h
      exact ⟨.const pe_int (fun P => rint P _) fun _ _ _ z => z, fun _ => rfl⟩
    | _ => cases h
  | _ => cases h)
theorem e_bl {b : Bool} : SndE W RX T k (.bl b) := snd_plain (fun {C X E} F e m h => by
  cases e with
  | Constant c j p =>
    cases c with
    | bool j =>
      have h : decide (b = j) = true := h
      have h : b = j := by simpa using h
      subst h
      exact ⟨.const pe_bl (fun P => rbl P _) fun _ _ _ z => z, fun _ => rfl⟩
    | _ => cases h
  | _ => cases h)
theorem e_str {x : Str} : SndE W RX T k (.str x) := snd_plain (fun {C X E} F e m h => by
  cases e with
  | Constant c j p =>
    cases c with
    | str j =>
      have h : decide (x = j) = true := h
      have h : x = j := by simpa using h
      subst h
      exact ⟨.const pe_str (fun P => rstr P _) fun _ _ _ z => z, fun _ => rfl⟩
    | _ => cases h
  | _ => cases h)
theorem e_non : SndE W RX T k .non := snd_plain (fun {C X E} F e m h => by
  cases e with
  | Constant c j p =>
    cases c with
    | none => exact ⟨.const pe_non (fun P => rnon P) fun _ _ _ z => z, fun _ => rfl⟩
    | _ => cases h
  | _ => cases h)
theorem e_tup {es : CL} (hl : SndL W RX T k es) : SndE W RX T k (.tup es) := snd_plain (fun {C X E} F e m h => by
  cases e with
  | Tuple xs j p =>
    obtain ⟨t, pa, ht⟩ := ((hl F).1 _ _ h).1
    refine ⟨⟨_, pe_tup pa, fun σ env P H post ex Q hp er xh z q => ht σ env P H _ ex _ hp er xh z fun ds vs P' H' ⟨hz, hq⟩ st rm => ?_⟩, fun _ => rfl⟩
    have rs := rm.rs
    exact ⟨by rw [← rs.len]; exact hz, fun p np => q _ _ _ _ _ hq ((Res.tup st.hp np rs).trans hp.ok st)⟩
  | _ => cases h)
theorem e_lst {es : CL} (hl : SndL W RX T k es) : SndE W RX T k (.lst es) := snd_plain (fun {C X E} F e m h => by
  cases e with
  | List xs p =>
    obtain ⟨t, pa, ht⟩ := ((hl F).1 _ _ h).1
    refine ⟨⟨_, pe_lst pa, fun σ env P H post ex Q hp er xh z q => ht σ env P H _ ex _ hp er xh z fun ds vs P' H' ⟨hz, hq⟩ st rm => ?_⟩, fun _ => rfl⟩
    have rs := rm.rs
    exact ⟨by rw [← rs.len]; exact hz, fun p np => q _ _ _ _ _ hq ((Res.lst st.hp np rs).trans hp.ok st)⟩
  | _ => cases h)
/-- two values that are read, and an operation -/
theorem se_op {C : Cf} {X : Cx} {E : XK} {e a b : Expr} {m ma mb : Sm} {n : Nat} {r : R2} {wb : D → D → (D → Prop) → Prop} (pe : ∀ {ta tb : TE}, PE X a ta → PE X b tb → PE X e (tOp r ta tb))
    (hr : ∀ (x y : D) (vx vy : V) (P H : Hp) (post : D → Prop) (Q : VK), HP W P H → RB W P H x vx → RB W P H y vy → wb x y post → (∀ d v P' H' F, post d → Res W n P H d v P' H' F → Q v H') → r vx vy H Q)
    (ha : SB W RX C X E a ma) (hb : SB W RX C X E b mb) (hm : ∀ env post ex, m.e env post ex → ma.e env (fun x => mb.e env (fun y => wb x y post) ex) ex) : SE W RX C X E e m n := by
  obtain ⟨ta, pa, ha⟩ := ha
  obtain ⟨tb, pb, hb⟩ := hb
  refine ⟨_, pe pa pb, fun σ env P H post ex Q hp er xh z q => ha σ env P H _ ex _ hp er xh (hm env post ex z) fun x vx P1 H1 z1 s1 r1 => ?_⟩
  refine hb σ env P1 H1 _ ex _ s1.hp (er.step s1) (xh.step hp.ok s1) z1 fun y vy P2 H2 z2 s2 r2 => ?_
  exact hr x y vx vy P2 H2 post Q s2.hp (r1.step s2) r2 z2 fun d v P' H' F hd rs => q d v P' H' F hd (rs.trans hp.ok (s1.trans hp.ok s2))
theorem e_bin {o : Operator} {a b : CE} (ha : SndE W RX T k a) (hb : SndE W RX T k b) : SndE W RX T k (.bin o a b) := snd_plain (fun {C X E} F e m h => by
  cases e with
  | BinOp x o' y p =>
    have h : (decide (o = o') && okBin o && chkE a C .b x && chkE b C .b y) = true := h
    simp only [Bool.and_eq_true, decide_eq_true_eq] at h
    obtain ⟨⟨⟨rfl, ho⟩, h1⟩, h2⟩ := h
    obtain ⟨r, hr, h3⟩ := bin_S (X := X) (W := W) o (by cases o <;> first | rfl | cases ho)
    exact ⟨se_op (pe_op hr) h3 ((ha F x).2.1 h1) ((hb F y).2.1 h2) fun _ _ _ z => z, fun _ => rfl⟩
  | _ => cases h)
theorem e_binL {o : Operator} {a b : CE} (ha : SndE W RX T k a) (hb : SndE W RX T k b) : SndE W RX T k (.binL o a b) := snd_plain (fun {C X E} F e m h => by
  cases e with
  | BinOp x o' y p =>
    have h : (decide (o = o') && okBinL o && chkE a C .b x && chkE b C .b y) = true := h
    simp only [Bool.and_eq_true, decide_eq_true_eq] at h
    obtain ⟨⟨⟨rfl, ho⟩, h1⟩, h2⟩ := h
    obtain ⟨r, hr, h3⟩ := binL_S (X := X) (W := W) o (by cases o <;> first | rfl | cases ho)
    exact ⟨se_op (pe_op hr) h3 ((ha F x).2.1 h1) ((hb F y).2.1 h2) fun _ _ _ z => z, fun _ => rfl⟩
  | _ => cases h)
theorem e_ix {a b : CE} (ha : SndE W RX T k a) (hb : SndE W RX T k b) : SndE W RX T k (.ix a b) := snd_plain (fun {C X E} F e m h => by
  cases e with
  | Subscript x y p =>
    have h : (nslc y && chkE a C .b x && chkE b C .b y) = true := h
    simp only [Bool.and_eq_true] at h
    obtain ⟨⟨h0, h1⟩, h2⟩ := h
    obtain ⟨r, hr, h3⟩ := ix_S (X := X) (W := W) F.units
    exact ⟨se_op (fun pa pb => pe_ix hr pa pb (plain_ix h0)) h3 ((ha F x).2.1 h1) ((hb F y).2.1 h2) fun _ _ _ z => z, fun _ => rfl⟩
  | _ => cases h)
theorem e_cmp {o : CmpOp} {a b : CE} (ha : SndE W RX T k a) (hb : SndE W RX T k b) : SndE W RX T k (.cmp o a b) := by
  intro C X E F e
  have key : ∀ m, chkE (.cmp o a b) C m e = true → SE W RX C X E e (wE T (.cmp o a b)) 0 ∧ ST W RX C X E e (wE T (.cmp o a b)) := by
    intro m h
    match e, h with
    | .Compare x [o'] [y] p, h =>
      have h : (decide (o = o') && nset y && chkE a C .b x && chkE b C .b y) = true := h
      simp only [Bool.and_eq_true, decide_eq_true_eq] at h
      obtain ⟨⟨⟨rfl, h0⟩, h1⟩, h2⟩ := h
      obtain ⟨r, hr, h3⟩ := cmp_S (X := X) (W := W) F.units o
      refine ⟨se_op (fun pa pb => pe_cmpR hr pa pb (no_marks h0)) h3 ((ha F x).2.1 h1) ((hb F y).2.1 h2) fun _ _ _ z => z, ?_⟩
      obtain ⟨ta, pa, ha⟩ := (ha F x).2.1 h1
      obtain ⟨tb, pb, hb⟩ := (hb F y).2.1 h2
      refine ⟨_, pt_cmpR hr pa pb (no_marks h0), fun σ env P H post ex Q hp er xh z q => ha σ env P H _ ex _ hp er xh z fun x vx P1 H1 z1 s1 r1 => ?_⟩
      refine hb σ env P1 H1 _ ex _ s1.hp (er.step s1) (xh.step hp.ok s1) z1 fun y vy P2 H2 z2 s2 r2 => ?_
      refine h3 x y vx vy P2 H2 _ _ s2.hp (r1.step s2) r2 z2 fun d v P' H' F hd rs => ?_
      obtain ⟨c, rfl, hc⟩ := hd
      have e : v = .bl c := by simpa only [R] using rs.r
      exact ⟨c, e, q c P' H' hc ((s1.trans hp.ok s2).trans hp.ok rs.st)⟩
  exact ⟨fun h => (key _ h).1, fun h => (key _ h).1.rb (.inl rfl), fun h => (key _ h).2⟩
theorem e_neg {a : CE} (ha : SndE W RX T k a) : SndE W RX T k (.neg a) := snd_plain (fun {C X E} F e m h => by
  match e, h with
  | .UnaryOp .USub x p, h =>
    have h : (m.nt && chkE a C .b x) = true := h
    rw [Bool.and_eq_true] at h
    obtain ⟨t, pa, ht⟩ := (ha F x).2.1 h.2
    refine ⟨⟨_, pe_un un_neg pa, fun σ env P H post ex Q hp er xh z q => ht σ env P H _ ex _ hp er xh z fun d v P' H' ⟨i, hd, hq⟩ st r => ?_⟩, fun hm => ?_⟩
    · subst hd
      exact ⟨i, r.int, q _ _ P' H' emp hq (.of st (rint P' _))⟩
    · subst hm; cases h.1)
theorem e_not {a : CE} (ha : SndE W RX T k a) : SndE W RX T k (.not_ a) := by
  intro C X E F e
  have kv : ∀ m, (m = .v ∨ m = .b) → chkE (.not_ a) C m e = true → SE W RX C X E e (wE T (.not_ a)) 0 := by
    intro m hm h
    match e, h with
    | .UnaryOp .Not x p, h =>
      have h : chkE a C .b x = true := by rcases hm with rfl | rfl <;> exact h
      obtain ⟨t, pa, ht⟩ := (ha F x).2.1 h
      refine ⟨_, pe_not pa, fun σ env P H post ex Q hp er xh z q => ht σ env P H _ ex _ hp er xh z fun d v P' H' ⟨i, hd, hq⟩ st r => ?_⟩
      subst hd
      exact ⟨i, r.bl, q _ _ P' H' emp hq (.of st (rbl P' _))⟩
  refine ⟨kv .v (.inl rfl), fun h => (kv .b (.inr rfl) h).rb (.inl rfl), fun h => ?_⟩
  match e, h with
  | .UnaryOp .Not x p, h =>
    obtain ⟨t, pa, ht⟩ := (ha F x).2.2 h
    exact ⟨_, pt_not pa, fun σ env P H post ex Q hp er xh z q => ht σ env P H _ ex _ hp er xh z fun b P' H' hb st => q _ P' H' hb st⟩
theorem e_ite {c a b : CE} (hc : SndE W RX T k c) (ha : SndE W RX T k a) (hb : SndE W RX T k b) : SndE W RX T k (.ite c a b) := by
  intro C X E F e
  refine ⟨fun h => ?_, fun h => ?_, fun h => ?_⟩
  · match e, h with
    | .IfExp x y z p, h =>
      have h : (true && chkE c C .t x && chkE a C .v y && chkE b C .v z) = true := h
      simp only [Bool.and_eq_true] at h
      obtain ⟨⟨⟨_, h1⟩, h2⟩, h3⟩ := h
      obtain ⟨tc, pc, hc⟩ := (hc F x).2.2 h1
      have one : ∀ n, SE W RX C X E y (wE T a) n → SE W RX C X E z (wE T b) n → SE W RX C X E (.IfExp x y z p) (wE T (.ite c a b)) n := by
        intro n ⟨ta, pa, ha⟩ ⟨tb, pb, hb⟩
        refine ⟨_, pe_ifExp pc pa pb, fun σ env P H post ex Q hp er xh z q => hc σ env P H _ ex _ hp er xh z fun t P1 H1 z1 s1 => ?_⟩
        cases t with
        | true => exact ha σ env P1 H1 post ex Q s1.hp (er.step s1) (xh.step hp.ok s1) z1 fun d v P' H' F' hd r => q d v P' H' F' hd (r.trans hp.ok s1)
        | false => exact hb σ env P1 H1 post ex Q s1.hp (er.step s1) (xh.step hp.ok s1) z1 fun d v P' H' F' hd r => q d v P' H' F' hd (r.trans hp.ok s1)
      have ea := (ha F y).1 h2
      have eb := (hb F z).1 h3
      rcases dep_le (fs := C.fs) a with e1 | e1
      · have : dep C.fs (.ite c a b) = 0 := by simp only [dep, e1]; rfl
        rw [this]; exact one 0 ea.val eb.val
      · rcases dep_le (fs := C.fs) b with e2 | e2
        · have : dep C.fs (.ite c a b) = 0 := by simp only [dep, e1, e2]; rfl
          rw [this]; exact one 0 ea.val eb.val
        · have : dep C.fs (.ite c a b) = 1 := by simp only [dep, e1, e2]; rfl
          rw [this]; rw [e1] at ea; rw [e2] at eb; exact one 1 ea eb
  · match e, h with
    | .IfExp x y z p, h =>
      have h : (true && chkE c C .t x && chkE a C .b y && chkE b C .b z) = true := h
      simp only [Bool.and_eq_true] at h
      obtain ⟨⟨⟨_, h1⟩, h2⟩, h3⟩ := h
      obtain ⟨tc, pc, hc⟩ := (hc F x).2.2 h1
      obtain ⟨ta, pa, ha⟩ := (ha F y).2.1 h2
      obtain ⟨tb, pb, hb⟩ := (hb F z).2.1 h3
      refine ⟨_, pe_ifExp pc pa pb, fun σ env P H post ex Q hp er xh z q => hc σ env P H _ ex _ hp er xh z fun t P1 H1 z1 s1 => ?_⟩
      cases t with
      | true => exact ha σ env P1 H1 post ex Q s1.hp (er.step s1) (xh.step hp.ok s1) z1 fun d v P' H' hd st r => q d v P' H' hd (s1.trans hp.ok st) r
      | false => exact hb σ env P1 H1 post ex Q s1.hp (er.step s1) (xh.step hp.ok s1) z1 fun d v P' H' hd st r => q d v P' H' hd (s1.trans hp.ok st) r
  · match e, h with
    | .IfExp x y z p, h => 
      have h : (false && chkE c C .t x && chkE a C .v y && chkE b C .v z) = true := h
      simp at h
theorem e_and {es : CL} (hl : SndL W RX T k es) : SndE W RX T k (.and_ es) := by
  intro C X E F e
  have kv : ∀ m, (m = .v ∨ m = .b) → chkE (.and_ es) C m e = true → SE W RX C X E e (wE T (.and_ es)) 0 := by
    intro m hm h
    match e, h with
    | .BoolOp .And xs p, h =>
      have h : (!isNil es && chkA es C false xs) = true := by rcases hm with rfl | rfl <;> exact h
      rw [Bool.and_eq_true] at h
      exact ((hl F).2.2.1 xs (by simpa using h.1) h.2).1 p
  refine ⟨kv .v (.inl rfl), fun h => (kv .b (.inr rfl) h).rb (.inl rfl), fun h => ?_⟩
  match e, h with
  | .BoolOp .And xs p, h =>
    have h : (!isNil es && chkA es C true xs) = true := h
    rw [Bool.and_eq_true] at h
    obtain ⟨t, pw, ht⟩ := ((hl F).2.1 xs (by simpa using h.1) h.2).1 p
    exact ⟨t, pw.pt, ht⟩
theorem e_or {es : CL} (hl : SndL W RX T k es) : SndE W RX T k (.or_ es) := by
  intro C X E F e
  have kv : ∀ m, (m = .v ∨ m = .b) → chkE (.or_ es) C m e = true → SE W RX C X E e (wE T (.or_ es)) 0 := by
    intro m hm h
    match e, h with
    | .BoolOp .Or xs p, h =>
      have h : (!isNil es && chkA es C false xs) = true := by rcases hm with rfl | rfl <;> exact h
      rw [Bool.and_eq_true] at h
      exact ((hl F).2.2.1 xs (by simpa using h.1) h.2).2 p
  refine ⟨kv .v (.inl rfl), fun h => (kv .b (.inr rfl) h).rb (.inl rfl), fun h => ?_⟩
  match e, h with
  | .BoolOp .Or xs p, h =>
    have h : (!isNil es && chkA es C true xs) = true := h
    rw [Bool.and_eq_true] at h
    obtain ⟨t, pw, ht⟩ := ((hl F).2.1 xs (by simpa using h.1) h.2).2 p
    exact ⟨t, pw.pt, ht⟩
end
end VI
set_option Elab.async false
set_option linter.all false
set_option maxRecDepth 100000
set_option maxHeartbeats 2000000
/-! VN: calls, slices, displays of dicts -/
namespace VI
open PySem PySem.Spec PyProof.Rows L2
section
variable {W : Wd} {RX : RXT} {T : Tb} {k : Nat}

theorem blt_S {C : Cf} {X : Cx} {E : XK} (F : XF W RX T k C X E) (b : Blt) : CallS X W b.val b.n b.w := by
  cases b with
  | len => exact len_S
  | tuple => exact tup_S
  | list => exact lst_S
  | all => exact all_S F.calm
  | any => exact any_S F.calm
  | int => exact int_S
  | abs => exact abs_S
  | repr => exact repr_S F.gd F.units
  | min => exact min_S F.calm F.units
  | max => exact max_S F.calm F.units
  | sorted => exact sort_S F.units
theorem blt_boot (b : Blt) : bootBuiltins b.nm = some b.val ∧ b.nm ≠ "__name__" := by
  cases b <;> exact ⟨by decide +kernel, by decide⟩
theorem chkL_ne {es : CL} {C : Cf} {ms : List Bool} (h : chkL es C ms [] = true) : isNil es = true := by
  cases es with
  | nil => rfl
  | cons e es => cases ms <;> cases h
theorem e_blt {b : Blt} {es : CL} (hl : SndL W RX T k es) : SndE W RX T k (.blt b es) := snd_plain (fun {C X E} F e m h => by
  match e, h with
  | .Call (.Name x p) xs [] pos, h =>
    have h : (decide (x = b.nm) && glb C.sc x && !isNil es && chkL es C (List.replicate xs.length false) xs) = true := h
    simp only [Bool.and_eq_true, decide_eq_true_eq] at h
    obtain ⟨⟨⟨rfl, hg⟩, hn⟩, hc⟩ := h
    obtain ⟨⟨t, pa, ht⟩, h1, h2, h3⟩ := (hl F).1 _ _ hc
    obtain ⟨gl, db⟩ := F.gl hg
    obtain ⟨r, hr, h4⟩ := blt_S F b
    cases xs with
    | nil => rw [chkL_ne hc] at hn; cases hn
    | cons x xs =>
      have hall : nst x = true ∧ xs.all nst = true := by simpa using h2
      refine ⟨⟨tCB r t, ?_, fun σ env P H post ex Q hp er xh z q => ht σ env P H _ ex _ hp er xh z fun ds vs P' H' hd st rm => ?_⟩, fun _ => rfl⟩
      · cases hb : b.ty with
        | false =>
          have e1 : b.val = .builtin b.id := by unfold Blt.val; rw [hb]; rfl
          rw [e1] at hr
          exact pe_callB hr gl (F.bl b) ((blt_boot b).1.trans (congrArg some e1)) pa (blt_boot b).2 db (star_cons hall.1) (star_any hall.2)
        | true =>
          have e1 : b.val = .type b.id := by unfold Blt.val; rw [hb]; rfl
          rw [e1] at hr
          exact pe_callTy hr gl (F.bl b) ((blt_boot b).1.trans (congrArg some e1)) pa (blt_boot b).2 db (star_cons hall.1) (star_any hall.2)
      · exact h4 ds vs P' H' post Q st.hp rm.rb hd fun d v P2 H2 F2 hd r => q d v P2 H2 F2 hd (r.trans hp.ok st))
theorem e_call {f : Nat} {es : CL} (hl : SndL W RX T k es) : SndE W RX T k (.call f es) := snd_plain (fun {C X E} F e m h => by
  match e, h with
  | .Call (.Name x p) xs [] pos, h =>
    have h : (match C.fs[f]? with | some (nm, md, dp) => decide (x = nm) && glb C.sc x && decide (dp ≤ 1) && chkL es C md xs | none => false) = true := h
    cases hf : C.fs[f]? with
    | none => rw [hf] at h; cases h
    | some q =>
      obtain ⟨nm, md, dp⟩ := q
      rw [hf] at h
      have h : (decide (x = nm) && glb C.sc x && decide (dp ≤ 1) && chkL es C md xs) = true := h
      simp only [Bool.and_eq_true, decide_eq_true_eq] at h
      obtain ⟨⟨⟨rfl, hg⟩, hd⟩, hc⟩ := h
      obtain ⟨⟨t, pa, ht⟩, h1, h2, h3⟩ := (hl F).1 _ _ hc
      obtain ⟨gl, db⟩ := F.gl hg
      obtain ⟨fi, fa, fd, ps, t1, t2, t3, t4, t5, t6, t7, fn⟩ := F.fns f x md dp hf
      have hdep : dep C.fs (.call f es) = fi.dep := by
        rw [t3]
        have e0 : dep C.fs (.call f es) = (if dp = 1 then 1 else 0) := by simp only [dep, hf]
        rw [e0]
        split <;> omega
      rw [hdep]
      have go : ∀ (σ : L2.St) (env : Env) (P H : Hp) (post : D → Prop) (ex : XD → Prop) (Q : VK), HP W P H → ER W C P H σ env → XH W RX E P H ex → (wE T (.call f es)).e env post ex →
          (∀ d v P' H' F, post d → Res W fi.dep P H d v P' H' F → Q v H') → t σ H fun vs H1 => SpV W RX fi vs H1 Q E := by
        intro σ env P H post ex Q hp er xh z q
        refine ht σ env P H _ ex _ hp er xh z fun ds vs P' H' hd st rm => ?_
        obtain ⟨fi', e1, e2⟩ := hd
        rw [t1] at e1
        cases e1
        rw [← t2] at rm
        exact ⟨P', ds, post, ex, st.hp, rm, e2, fun d v P2 H2 F2 hd r => q d v P2 H2 F2 hd (r.trans hp.ok st), xh.step hp.ok st⟩
      cases xs with
      | nil =>
        refine ⟨⟨_, pe_callG0 fn F.gd F.room gl t4 t5 t6 F.ps db, fun σ env P H post ex Q hp er xh z q => ?_⟩, fun _ => rfl⟩
        have hmd : md = [] := List.eq_nil_of_length_eq_zero (by simpa using h3)
        have hn := chkL_ne hc
        cases es with
        | cons _ _ => cases hn
        | nil =>
          obtain ⟨fi', e1, e2⟩ := z
          rw [t1] at e1
          cases e1
          exact ⟨P, [], post, ex, hp, by rw [t2, hmd]; exact ⟨rfl, rfl⟩, e2, q, xh⟩
      | cons x xs =>
        have hall : nst x = true ∧ xs.all nst = true := by simpa using h2
        exact ⟨⟨_, pe_callG fn F.gd F.room gl t4 t5 t6 F.ps pa db (star_cons hall.1) (star_any hall.2), go⟩, fun _ => rfl⟩)

/-! ### keywords -/
theorem RM.app {P H : Hp} : ∀ {ms ns : List Bool} {ds es : List D} {vs us : List V}, RM W P H ms ds vs → RM W P H ns es us → RM W P H (ms ++ ns) (ds ++ es) (vs ++ us)
  | [], _, _, _, _, _, h, h' => by obtain ⟨rfl, rfl⟩ := h; exact h'
  | m :: ms, _, _, _, _, _, h, h' => by
    obtain ⟨d, ds', v, vs', rfl, rfl, h1, h2⟩ := h
    exact ⟨d, ds' ++ _, v, vs' ++ _, rfl, rfl, h1, RM.app h2 h'⟩
theorem RM.getD {P H : Hp} : ∀ {ms : List Bool} {ds : List D} {vs : List V} (j : Nat), RM W P H ms ds vs → if ms.getD j true = true then R W.dk P (ds.getD j .non) (vs.getD j .non) else RB W P H (ds.getD j .non) (vs.getD j .non)
  | [], _, _, j, h => by
    obtain ⟨rfl, rfl⟩ := h
    simpa using rnon (dk := W.dk) P
  | m :: ms, _, _, 0, h => by
    obtain ⟨d, ds', v, vs', rfl, rfl, h1, h2⟩ := h
    exact h1
  | m :: ms, _, _, j + 1, h => by
    obtain ⟨d, ds', v, vs', rfl, rfl, h1, h2⟩ := h
    exact RM.getD j h2
theorem RM.perm {P H : Hp} {ms : List Bool} {ds : List D} {vs : List V} (h : RM W P H ms ds vs) : ∀ pm : List Nat, RM W P H (pm.map fun j => ms.getD j true) (permD ds pm) (pm.map fun j => vs.getD j V.non)
  | [] => ⟨rfl, rfl⟩
  | j :: pm => ⟨_, _, _, _, rfl, rfl, h.getD j, RM.perm h pm⟩
theorem runGK {X : Cx} {k n : Nat} {f : Addr} {fd : FuncData} {ps ks : List Str} {sp : Sp} {E : XK} {g : List Value → List Value → List Value} {gV : List V → List V → List V} {pins : List (Addr × Obj)} {σ : L2.St} {H : Hp} {s : Shared} {Q : VK} {us ws : List Value} {vs zs : List V}
    (F : FnG X.prog X.w X.K X.mg X.base k f fd ps sp) (gd : Gd X.A) (hr : Room k X.A) (hb : KBn X.K fd ps n ks g gV) (hx : Passes (L2.CX X.prog X.w) X E)
    (I : Inv X pins σ H s) (r : Vals vs us) (rz : Vals zs ws) (l1 : vs.length = n) (l2 : zs.length = ks.length) (h : sp (gV vs zs) H Q E) : wpAny (model X.prog X.w) X.A (call (.ref f) us (ks.zip ws)) (EP X pins σ Q) X.xe s := by
  refine wpAny_call (codeAny_mono (goG F gd hr hx I (hb.to s us ws I.kIn (r.length.symm.trans l1) (rz.length.symm.trans l2)) (hb.rel r rz) h) fun rs s' hq => ?_)
  cases rs with
  | error z => exact hq
  | ok fl => cases fl <;> exact hq
theorem kw_facts {pos : Pos} {env : PySem.Env} : ∀ {kws : List Keyword} {nms : List Str}, kws.map kwN = nms.map some → (backToKw pos (keywordEach kws env)).all (·.1.isSome) = true ∧ (backToKw pos (keywordEach kws env)).filterMap (·.1) = nms ∧ (backToKw pos (keywordEach kws env)).any (·.1.isNone) = false
  | [], [], _ => ⟨rfl, rfl, rfl⟩
  | [], _ :: _, h => by cases h
  | _ :: _, [], h => by cases h
  | ⟨n, e, p⟩ :: kws, m :: nms, h => by
    have h2 : n = some m ∧ kws.map kwN = nms.map some := by simpa [kwN] using h
    obtain ⟨rfl, h3⟩ := h2
    obtain ⟨a, b, c⟩ := kw_facts (pos := pos) (env := env) (kws := kws) (nms := nms) h3
    refine ⟨?_, ?_, ?_⟩
    · show ((some m).isSome && (backToKw pos (keywordEach kws env)).all (·.1.isSome)) = true
      rw [a]; rfl
    · show (m :: (backToKw pos (keywordEach kws env)).filterMap (·.1)) = m :: nms
      rw [b]
    · show ((some m).isNone || (backToKw pos (keywordEach kws env)).any (·.1.isNone)) = false
      rw [c]; rfl
section
variable {X : Cx} {n : Nat} {f : Addr} {fd : FuncData} {ps ks : List Str} {sp : Sp} {E : XK} {g : List Value → List Value → List Value} {gV : List V → List V → List V} {x : Str} {p pos : Pos} {e : Expr} {es : List Expr} {kws : List Keyword} {t tk : TA}
theorem pe_callGK (F : FnG X.prog X.w X.K X.mg X.base k f fd ps sp) (gd : Gd X.A) (hr : Room k X.A) (hg : Gl X x) (hm : X.mg x = some (.ref f)) (hk : PySem.W.keepIn X.K (.ref f) = true) (hb : KBn X.K fd ps n ks g gV) (hx : Passes (L2.CX X.prog X.w) X E)
    (ha : PA X (e :: es) t) (hkw : PK X kws tk) (hdb : (x == ("__debug__" : Str)) = false) (hn1 : nst e = true) (hn2 : es.all nst = true) (hnm : kws.map kwN = ks.map some) :
    PE X (.Call (.Name x p) (e :: es) kws pos) (fun σ H Q => t σ H fun vs H1 => tk σ H1 fun zs H2 => vs.length = n ∧ zs.length = ks.length ∧ sp (gV vs zs) H2 Q E) := by
  obtain ⟨k1, k2, k3⟩ := kw_facts (pos := pos) (env := X.env) hnm
  refine ⟨fun pins s σ H Q I h => wpAny_Call_Name_kw (ld_glob I hg hm ?_ hdb)⟩
  refine PySem.W.callWith_KW (h₀ := X.base) I.ok.mod.kin hk k1 (thn (ha.run pos pins s σ H _ I h) fun us s1 ⟨vs, H1, I1, r, q⟩ => ?_) (by rw [k3, star_cons hn1]; show ((false || (backTo pos (starEach es X.env)).any (·.1)) || false) = false; rw [star_any hn2]; rfl) (star_cons hn1)
  refine thn (hkw.run pos pins s1 σ H1 _ I1 q) fun ws s2 ⟨zs, H2, I2, rz, l1, l2, q2⟩ => ⟨I2.kIn, ?_⟩
  rw [k2]
  exact runGK F gd hr hb hx I2 r rz l1 l2 q2
theorem pe_callGK0 (F : FnG X.prog X.w X.K X.mg X.base k f fd ps sp) (gd : Gd X.A) (hr : Room k X.A) (hg : Gl X x) (hm : X.mg x = some (.ref f)) (hk : PySem.W.keepIn X.K (.ref f) = true) (hb : KBn X.K fd ps 0 ks g gV) (hx : Passes (L2.CX X.prog X.w) X E)
    (hkw : PK X kws tk) (hdb : (x == ("__debug__" : Str)) = false) (hnm : kws.map kwN = ks.map some) :
    PE X (.Call (.Name x p) [] kws pos) (fun σ H Q => tk σ H fun zs H2 => zs.length = ks.length ∧ sp (gV [] zs) H2 Q E) := by
  obtain ⟨k1, k2, k3⟩ := kw_facts (pos := pos) (env := X.env) hnm
  refine ⟨fun pins s σ H Q I h => wpAny_Call_Name_kw (ld_glob I hg hm ?_ hdb)⟩
  refine PySem.W.callWith_KW0 (h₀ := X.base) I.ok.mod.kin hk k1 ?_ (by rw [k3]; rfl)
  refine thn (hkw.run pos pins s σ H _ I h) fun ws s2 ⟨zs, H2, I2, rz, l2, q2⟩ => ⟨I2.kIn, ?_⟩
  rw [k2]
  exact runGK (us := []) F gd hr hb hx I2 .nil rz rfl l2 q2
end
theorem e_callK {c : Nat} {es ks : CL} (hl : SndL W RX T k es) (hk : SndL W RX T k ks) : SndE W RX T k (.callK c es ks) := snd_plain (fun {C X E} F e m h => by
  match e, h with
  | .Call (.Name x p) xs kws pos, h =>
    have h : (match C.ks[c]? with
      | some (f, n, nms, pm) => (match C.fs[f]? with
        | some (nm, md, dp) => decide (x = nm) && glb C.sc x && decide (dp = 0) && decide (xs.length = n) && decide (kws.map kwN = nms.map some) && decide (nms ≠ []) &&
          decide (pm.map (fun j => (amd (n + nms.length) pm md).getD j true) = md) && chkL es C ((amd (n + nms.length) pm md).take n) xs && chkL ks C ((amd (n + nms.length) pm md).drop n) (kws.map kwV)
        | none => false)
      | none => false) = true := h
    cases hc : C.ks[c]? with
    | none => rw [hc] at h; cases h
    | some q =>
      obtain ⟨f, n, nms, pm⟩ := q
      rw [hc] at h
      cases hf : C.fs[f]? with
      | none =>
        have h : (match C.fs[f]? with
        | some (nm, md, dp) => decide (x = nm) && glb C.sc x && decide (dp = 0) && decide (xs.length = n) && decide (kws.map kwN = nms.map some) && decide (nms ≠ []) &&
          decide (pm.map (fun j => (amd (n + nms.length) pm md).getD j true) = md) && chkL es C ((amd (n + nms.length) pm md).take n) xs && chkL ks C ((amd (n + nms.length) pm md).drop n) (kws.map kwV)
        | none => false) = true := h
        rw [hf] at h; cases h
      | some q =>
        obtain ⟨nm, md, dp⟩ := q
        have h : (match C.fs[f]? with
        | some (nm, md, dp) => decide (x = nm) && glb C.sc x && decide (dp = 0) && decide (xs.length = n) && decide (kws.map kwN = nms.map some) && decide (nms ≠ []) &&
          decide (pm.map (fun j => (amd (n + nms.length) pm md).getD j true) = md) && chkL es C ((amd (n + nms.length) pm md).take n) xs && chkL ks C ((amd (n + nms.length) pm md).drop n) (kws.map kwV)
        | none => false) = true := h
        rw [hf] at h
        have h : (decide (x = nm) && glb C.sc x && decide (dp = 0) && decide (xs.length = n) && decide (kws.map kwN = nms.map some) && decide (nms ≠ []) &&
          decide (pm.map (fun j => (amd (n + nms.length) pm md).getD j true) = md) && chkL es C ((amd (n + nms.length) pm md).take n) xs && chkL ks C ((amd (n + nms.length) pm md).drop n) (kws.map kwV)) = true := h
        simp only [Bool.and_eq_true, decide_eq_true_eq] at h
        obtain ⟨⟨⟨⟨⟨⟨⟨⟨rfl, hg⟩, h0⟩, hlen⟩, hnm⟩, hne⟩, hmd⟩, h1⟩, h2⟩ := h
        obtain ⟨⟨t, pa, ht⟩, a1, a2, a3⟩ := (hl F).1 _ _ h1
        obtain ⟨tk, pk, hkk⟩ := (hk F).2.2.2.2.1 _ _ h2
        obtain ⟨gl, db⟩ := F.gl hg
        obtain ⟨t0, hfn⟩ := F.kws c f n nms pm hc
        obtain ⟨fi, fa, fd, ps, t1, t2, t3, t4, t5, kb, fn⟩ := hfn x md dp hf
        have fin : ∀ {P' H' : Hp} {ds ds2 : List D} {vs zs : List V} {post : D → Prop} {ex : XD → Prop} {Q : VK}, HP W P' H' → RM W P' H' ((amd (n + nms.length) pm md).take n) ds vs → RM W P' H' ((amd (n + nms.length) pm md).drop n) ds2 zs →
            (∃ ki fi, T.ks[c]? = some ki ∧ T.fs[ki.f]? = some fi ∧ fi.sp (permD (ds ++ ds2) ki.pm) post ex) → (∀ d v P2 H2 F, post d → Res W 0 P' H' d v P2 H2 F → Q v H2) → XH W RX E P' H' ex →
            SpV W RX fi (pm.map fun i => (vs ++ zs).getD i V.non) H' Q E := by
          intro P' H' ds ds2 vs zs post ex Q hp r1 r2 hd q xh
          obtain ⟨ki, fi', e1, e2, e3⟩ := hd
          rw [t0] at e1
          cases e1
          rw [t1] at e2
          cases e2
          have r := RM.app r1 r2
          rw [List.take_append_drop] at r
          have r := r.perm pm
          rw [hmd, ← t2] at r
          refine ⟨P', _, post, ex, hp, r, e3, ?_, xh⟩
          rw [t3, h0]
          exact q
        have hn : ((amd (n + nms.length) pm md).take n).length = n ∧ ((amd (n + nms.length) pm md).drop n).length = nms.length := by
          have : (amd (n + nms.length) pm md).length = n + nms.length := by unfold amd; rw [List.length_map, List.length_range]
          rw [List.length_take, List.length_drop, this]
          omega
        cases xs with
        | nil =>
          obtain rfl : n = 0 := hlen.symm
          have hn0 := chkL_ne h1
          cases es with
          | cons _ _ => cases hn0
          | nil =>
            refine ⟨⟨_, pe_callGK0 fn F.gd F.room gl t4 t5 kb F.ps pk db hnm, fun σ env P H post ex Q hp er xh z q => ?_⟩, fun _ => rfl⟩
            refine hkk σ env P H _ ex _ hp er xh z fun ds2 zs P2 H2 z2 s2 r2 => ⟨by rw [r2.len.2]; exact hn.2, ?_⟩
            exact fin (vs := []) (ds := []) s2.hp ⟨rfl, rfl⟩ r2 z2 (fun d v P' H' F' hd r => q d v P' H' F' hd (r.trans hp.ok s2)) (xh.step hp.ok s2)
        | cons x xs =>
          have hall : nst x = true ∧ xs.all nst = true := by simpa using a2
          refine ⟨⟨_, pe_callGK fn F.gd F.room gl t4 t5 kb F.ps pa pk db hall.1 hall.2 hnm, fun σ env P H post ex Q hp er xh z q => ?_⟩, fun _ => rfl⟩
          refine ht σ env P H _ ex _ hp er xh z fun ds vs P1 H1 z1 s1 r1 => ?_
          refine hkk σ env P1 H1 _ ex _ s1.hp (er.step s1) (xh.step hp.ok s1) z1 fun ds2 zs P2 H2 z2 s2 r2 => ⟨by rw [r1.len.2]; exact hn.1, by rw [r2.len.2]; exact hn.2, ?_⟩
          have s12 := s1.trans hp.ok s2
          exact fin s2.hp (r1.step s2) r2 z2 (fun d v P' H' F' hd r => q d v P' H' F' hd (r.trans hp.ok s12)) (xh.step hp.ok s12))

/-! ### slices -/
theorem so_of {C : Cf} {X : Cx} {E : XK} {o : Option Expr} {ce : CE} (F : XF W RX T k C X E) (ha : SndE W RX T k ce) (h : optc (isGap ce) (chkE ce C .b) o = true) :
    ∃ t : TO, PO X o t ∧ ∀ (σ : L2.St) (env : Env) (P H : Hp) (post : Option Int → Prop) (ex : XD → Prop) (Q : Option Int → Hp → Prop), HP W P H → ER W C P H σ env → XH W RX E P H ex →
      (wE T ce).o env post ex → (∀ d P' H', post d → Stp W P H P' H' → Q d H') → t σ H Q := by
  cases o with
  | none =>
    cases ce <;> first | cases h | skip
    exact ⟨_, po_none, fun σ env P H post ex Q hp er xh z q => q none P H z (.refl hp)⟩
  | some y =>
    obtain ⟨t, pa, ht⟩ := (ha F y).2.1 h
    refine ⟨_, po_some pa, fun σ env P H post ex Q hp er xh z q => ht σ env P H _ ex _ hp er xh (show (wE T ce).e env (fun d => ∃ i, d = .int i ∧ post (some i)) ex from ?_) fun d v P' H' ⟨i, hd, hq⟩ st r => ?_⟩
    · cases ce <;> first | exact z | exact z.elim | cases h
    · subst hd
      exact ⟨i, r.int, q _ P' H' hq st⟩
theorem e_sl {l : Bool} {a lo hi : CE} (ha : SndE W RX T k a) (hlo : SndE W RX T k lo) (hhi : SndE W RX T k hi) : SndE W RX T k (.sl l a lo hi) := snd_plain (fun {C X E} F e m h => by
  match e, h with
  | .Subscript x (.Slice l' h' none p2) pos, h =>
    have h : (chkE a C .b x && optc (isGap lo) (chkE lo C .b) l' && optc (isGap hi) (chkE hi C .b) h') = true := h
    rw [Bool.and_eq_true, Bool.and_eq_true] at h
    obtain ⟨⟨h1, h2⟩, h3⟩ := h
    obtain ⟨t, pa, ht⟩ := (ha F x).2.1 h1
    obtain ⟨tl, pl, hl⟩ := so_of F hlo h2
    obtain ⟨th, ph, hh⟩ := so_of F hhi h3
    refine ⟨?_, fun _ => rfl⟩
    have key : ∀ {n : Nat} {wb : D → Option Int → Option Int → (D → Prop) → Prop}, SlS X W n wb → (∀ env post ex, (wE T (.sl l a lo hi)).e env post ex → (wE T a).e env (fun x => (wE T lo).o env (fun i => (wE T hi).o env (fun j => wb x i j post) ex) ex) ex) →
        SE W RX C X E (.Subscript x (.Slice l' h' none p2) pos) (wE T (.sl l a lo hi)) n := by
      intro n wb ⟨r, hr, h4⟩ hm
      refine ⟨_, pe_slice hr pa pl ph, fun σ env P H post ex Q hp er xh z q => ht σ env P H _ ex _ hp er xh (hm env post ex z) fun d v P1 H1 z1 s1 r1 => ?_⟩
      refine hl σ env P1 H1 _ ex _ s1.hp (er.step s1) (xh.step hp.ok s1) z1 fun i P2 H2 z2 s2 => ?_
      have s12 := s1.trans hp.ok s2
      refine hh σ env P2 H2 _ ex _ s2.hp (er.step s12) (xh.step hp.ok s12) z2 fun j P3 H3 z3 s3 => ?_
      exact h4 d i j v P3 H3 post Q s3.hp ((r1.step s2).step s3) z3 fun d v P' H' F' hd r => q d v P' H' F' hd (r.trans hp.ok (s12.trans hp.ok s3))
    cases l with
    | true => exact key slL_S fun _ _ _ z => z
    | false => exact key sl_S fun _ _ _ z => z)
theorem pe_revT {X : Cx} {e : Expr} {te : TE} {k : Nat} {p1 p2 p3 pos : Pos} (he : PE X e te) : PE X (.Subscript e (.Slice none none (some (.UnaryOp .USub (.Constant (.int 1) k p1) p2)) p3) pos)
    (fun σ H Q => te σ H fun x H1 => ∃ a xs, x = .ref a ∧ SqT X.K H1 a xs ∧ ∀ p, H1 p = none → Q (.ref p) (upd H1 p (.tup xs.reverse))) := by
  refine ⟨fun pins s σ H Q I h => ?_⟩
  refine Subscript_ (thn (he.run pins s σ H _ I h) fun v s1 ⟨x, H1, I1, r1, q1⟩ => ?_)
  obtain ⟨a, xs, ex, hx, q⟩ := q1
  subst ex
  cases r1
  have hst : PO X (some (.UnaryOp .USub (.Constant (.int 1) k p1) p2)) (tPart (tUn (rU fun i => .int (-i)) (tC (.int 1)))) := po_some (pe_un un_neg pe_int)
  refine wpAny_Slice (thn (po_none.run pins s1 σ H1 (fun o H2 => o = none ∧ H2 = H1) I1 ⟨rfl, rfl⟩) fun vl s2 ⟨l, H2, I2, pl, el, e2⟩ => ?_)
  subst el e2
  cases pl
  refine thn (po_none.run pins s2 σ H2 (fun o H3 => o = none ∧ H3 = H2) I2 ⟨rfl, rfl⟩) fun vu s3 ⟨u, H3, I3, pu, eu, e3⟩ => ?_
  subst eu e3
  cases pu
  refine thn (hst.run pins s3 σ H3 (fun o H4 => o = some (-1) ∧ H4 = H3) I3 ⟨1, rfl, -1, rfl, rfl, rfl⟩) fun vs s4 ⟨o, H4, I4, ps, eo, e4⟩ => ?_
  subst eo e4
  have I5 : Inv X pins σ H4 { s4 with heap := s4.heap.push { cls := .type "slice", data := .fields #[.none, .none, vs] } } := I4.kept (t' := s4.toks) fun b ob q => Heap.get?_push_of_some _ q
  obtain ⟨its, r, ht, hz⟩ := I5.tuple hx
  have hlen := r.length
  show wpAny (model X.prog X.w) X.A (subscriptTail e (.Slice none none (some (.UnaryOp .USub (.Constant (.int 1) k p1) p2)) p3) (.ref a) (.ref s4.heap.objs.size)) (EP X pins σ Q) X.xe { s4 with heap := s4.heap.push { cls := .type "slice", data := .fields #[.none, .none, vs] } }
  have hty : ({ s4 with heap := s4.heap.push { cls := .type "slice", data := .fields #[.none, .none, vs] } } : Shared).TypeIs (.ref a) "tuple" := by
    obtain ⟨ob, q1, q2, _⟩ := ht
    exact ⟨ob, q1, q2⟩
  refine tail_any (ops := [.ref a, .ref s4.heap.objs.size]) hty (PySem.F.slot_tuple_getitem.lookup) ?_ (by with_unfolding_all rfl)
  refine item_rev ht (Heap.IsSliceOf.new _ .none .none vs) ps ?_ (by rw [List.size_toArray]; omega)
  refine ⟨.ref _, _, I5.laid (t' := s4.toks) (o := .tup xs.reverse) (fun b ob q => Heap.get?_push_of_some _ q) (Nat.le_refl _) ?_, rfl, q _ (I5.hok.fresh (Nat.le_refl _))⟩
  exact ⟨by rw [List.length_reverse]; exact hz, _, r.reverse, IsTup.new _ _⟩
theorem e_rev {l : Bool} {a : CE} (ha : SndE W RX T k a) : SndE W RX T k (.rev l a) := snd_plain (fun {C X E} F e m h => by
  match e, h with
  | .Subscript x (.Slice none none (some y) p2) pos, h =>
    have h : (isOne y && chkE a C .b x) = true := h
    rw [Bool.and_eq_true] at h
    match y, h with
    | .UnaryOp .USub (.Constant (.int 1) k p1) p3, h =>
      obtain ⟨t, pa, ht⟩ := (ha F x).2.1 h.2
      cases l with
      | true =>
        refine ⟨⟨_, pe_revL pa, fun σ env P H post ex Q hp er xh z q => ht σ env P H _ ex _ hp er xh z fun d v P' H' hd st r => ?_⟩, fun _ => rfl⟩
        cases d with
        | lst ds =>
          obtain ⟨a, xs, rfl, h3, r3⟩ := r.lst st.hp
          exact ⟨a, xs, rfl, SqL.of h3, fun p np => q _ _ _ _ _ hd ((Res.lst st.hp np (Rs.iff.mpr (pr_rev (Rs.iff.mp r3)))).trans hp.ok st)⟩
        | _ => exact hd.elim
      | false =>
        refine ⟨⟨_, pe_revT pa, fun σ env P H post ex Q hp er xh z q => ht σ env P H _ ex _ hp er xh z fun d v P' H' hd st r => ?_⟩, fun _ => rfl⟩
        cases d with
        | tup ds =>
          obtain ⟨a, xs, rfl, h3, r3⟩ := r.tup
          exact ⟨a, xs, rfl, SqT.of (st.hp.sub _ _ h3), fun p np => q _ _ _ _ _ hd ((Res.tup st.hp np (Rs.iff.mpr (pr_rev (Rs.iff.mp r3)))).trans hp.ok st)⟩
        | _ => exact hd.elim)

/-! ### dicts, ranges -/
theorem e_dnT : SndE W RX T k .dnT := snd_plain (fun {C X E} F e m h => by
  match e, h with
  | .Dict [] [] p, h => exact ⟨⟨_, pe_dnewT, fun σ env P H post ex Q hp er xh z q p np => q _ _ _ _ _ z (.lay hp np ⟨[], rfl, rfl, Rs.nil⟩)⟩, fun _ => rfl⟩)
theorem e_dnK : SndE W RX T k .dnK := snd_plain (fun {C X E} F e m h => by
  match e, h with
  | .Dict [] [] p, h => exact ⟨⟨_, pe_dnewK, fun σ env P H post ex Q hp er xh z q p np => q _ _ _ _ _ z (.lay hp np ⟨[], rfl, rfl, Rs.nil⟩)⟩, fun _ => rfl⟩)
theorem rs_rng {dk : Addr} {P : Hp} (a b : Int) : Rs dk P (rngD a b) (rgV a b) := by
  unfold rngD rgV
  refine Rs.iff.mpr ?_
  generalize List.range (b - a).toNat = l
  induction l with
  | nil => exact .nil
  | cons x l ih => exact .cons (rint P _) ih
theorem se_rg {C : Cf} {X : Cx} {E : XK} {e : Expr} {x : Str} {p pos : Pos} {t : Bool} {te : L2.St → Hp → (Int → Int → Hp → Prop) → Prop} {m : Sm} (F : XF W RX T k C X E) (hx : x = if t = true then "tuple" else "list") (hg : glb C.sc x = true) (ne : nst e = true) (he : PRg X e te)
    (ht : ∀ (σ : L2.St) (env : Env) (P H : Hp) (post : D → Prop) (ex : XD → Prop) (Q : Int → Int → Hp → Prop), HP W P H → ER W C P H σ env → XH W RX E P H ex → m.e env post ex →
      (∀ a b P' H', RgOk a b → (if t = true then post (.tup (rngD a b)) else post (.lst (rngD a b))) → Stp W P H P' H' → Q a b H') → te σ H Q) : SE W RX C X E (.Call (.Name x p) [e] [] pos) m (if t = true then 0 else 1) := by
  cases t with
  | true =>
    have hx : x = "tuple" := hx
    subst hx
    refine ⟨_, pe_tupRg F.calm (F.gl hg).1 (F.bl .tuple) he (star_cons ne), fun σ env P H post ex Q hp er xh z q => ht σ env P H post ex _ hp er xh z fun a b P' H' ok hd st => ⟨ok, fun y ny => ?_⟩⟩
    exact q _ _ _ _ _ hd ((Res.tup st.hp ny (rs_rng a b)).trans hp.ok st)
  | false =>
    have hx : x = "list" := hx
    subst hx
    refine ⟨_, pe_listRg F.calm (F.gl hg).1 (F.bl .list) he (star_cons ne), fun σ env P H post ex Q hp er xh z q => ht σ env P H post ex _ hp er xh z fun a b P' H' ok hd st => ⟨ok, fun y ny => ?_⟩⟩
    exact q _ _ _ _ _ hd ((Res.lst st.hp ny (rs_rng a b)).trans hp.ok st)
theorem e_rng1 {t : Bool} {a : CE} (ha : SndE W RX T k a) : SndE W RX T k (.rng1 t a) := snd_plain (fun {C X E} F e m h => by
  match e, h with
  | .Call (.Name x p) [.Call (.Name y p2) [z] [] p3] [] pos, h =>
    have h : (decide (x = if t = true then "tuple" else "list") && decide (y = "range") && glb C.sc x && glb C.sc y && nst z && chkE a C .b z) = true := h
    simp only [Bool.and_eq_true, decide_eq_true_eq] at h
    obtain ⟨⟨⟨⟨⟨h1, rfl⟩, h3⟩, h4⟩, h5⟩, h6⟩ := h
    obtain ⟨tz, pa, ht⟩ := (ha F z).2.1 h6
    refine ⟨se_rg F h1 h3 rfl (prg_1 (F.gl h4).1 F.rg.1 pa (star_cons h5)) fun σ env P H post ex Q hp er xh z q => ht σ env P H _ ex _ hp er xh z fun d v P' H' ⟨i, hd, b1, b2, hq⟩ st r => ?_, fun _ => rfl⟩
    subst hd
    exact ⟨i, r.int, q 0 i P' H' (RgOk.of_le (by omega) (by omega) (by omega) b1) hq st⟩)
theorem e_rng2 {t : Bool} {a b : CE} (ha : SndE W RX T k a) (hb : SndE W RX T k b) : SndE W RX T k (.rng2 t a b) := snd_plain (fun {C X E} F e m h => by
  match e, h with
  | .Call (.Name x p) [.Call (.Name y p2) [z, u] [] p3] [] pos, h =>
    have h : (decide (x = if t = true then "tuple" else "list") && decide (y = "range") && glb C.sc x && glb C.sc y && nst z && nst u && chkE a C .b z && chkE b C .b u) = true := h
    simp only [Bool.and_eq_true, decide_eq_true_eq] at h
    obtain ⟨⟨⟨⟨⟨⟨⟨h1, rfl⟩, h3⟩, h4⟩, h5⟩, h5'⟩, h6⟩, h7⟩ := h
    obtain ⟨tz, pa, ht⟩ := (ha F z).2.1 h6
    obtain ⟨tu, pb, hu⟩ := (hb F u).2.1 h7
    refine ⟨se_rg F h1 h3 rfl (prg_2 (F.gl h4).1 F.rg.1 pa pb (by rw [star_cons h5]) (by rw [star_cons h5']) (by rw [star_cons h5']; rfl)) fun σ env P H post ex Q hp er xh z q => ht σ env P H _ ex _ hp er xh z fun d v P1 H1 z1 s1 r1 => ?_, fun _ => rfl⟩
    refine hu σ env P1 H1 _ ex _ s1.hp (er.step s1) (xh.step hp.ok s1) z1 fun d2 v2 P2 H2 ⟨i, j, e1, e2, ⟨b1, b2, b3, b4⟩, hq⟩ s2 r2 => ?_
    subst e1 e2
    exact ⟨i, j, r1.int, r2.int, q i j P2 H2 (RgOk.of_le b1 (by omega) (by omega) b3) hq (s1.trans hp.ok s2)⟩)
theorem e_gap : SndE W RX T k .gap := by
  intro C X E F e
  refine ⟨fun h => ?_, fun h => ?_, fun h => ?_⟩ <;> cases h

/-! ### lists of expressions -/
theorem l_nil : SndL W RX T k .nil := by
  intro C X E F
  refine ⟨fun ms es h => ?_, fun es h _ => ?_, fun es h _ => ?_, fun es _ h => ?_, fun ms kws h => ?_, fun b x h => ?_⟩
  any_goals (cases h; done)
  · match ms, es, h with
    | [], [], _ => exact ⟨⟨_, pa_nil, fun σ env P H post ex Q hp er xh z q => q [] [] P H z (.refl hp) ⟨rfl, rfl⟩⟩, fun _ _ z => (by cases z), rfl, rfl⟩
  · match es, h with
    | [], _ => exact ⟨_, pts_nil, fun σ env P H post ex Q hp er xh z q => q true P H z (.refl hp)⟩
  · match ms, kws, h with
    | [], [], _ => exact ⟨_, pk_nil, fun σ env P H post ex Q hp er xh z q => q [] [] P H z (.refl hp) ⟨rfl, rfl⟩⟩
theorem arg_m {C : Cf} {X : Cx} {E : XK} {ce : CE} {m : Bool} {x : Expr} (F : XF W RX T k C X E) (ha : SndE W RX T k ce) (h : chkE ce C (if m = true then .v else .b) x = true) :
    ∃ t : TE, PE X x t ∧ ∀ (σ : L2.St) (env : Env) (P H : Hp) (post : D → Prop) (ex : XD → Prop) (Q : VK), HP W P H → ER W C P H σ env → XH W RX E P H ex →
      (wE T ce).e env post ex → (∀ d v P' H', post d → Stp W P H P' H' → (if m = true then R W.dk P' d v else RB W P' H' d v) → Q v H') → t σ H Q := by
  cases m with
  | true =>
    obtain ⟨t, pa, ht⟩ := ((ha F x).1 h).val
    exact ⟨t, pa, fun σ env P H post ex Q hp er xh z q => ht σ env P H post ex Q hp er xh z fun d v P' H' F' hd r => q d v P' H' hd r.st r.r⟩
  | false => exact (ha F x).2.1 h
theorem l_cons {e : CE} {es : CL} (ha : SndE W RX T k e) (hl : SndL W RX T k es) : SndL W RX T k (.cons e es) := by
  intro C X E F
  refine ⟨fun ms xs h => ?_, fun xs _ h => ?_, fun xs _ h => ?_, fun xs h1 h => ?_, fun ms kws h => ?_, fun b x h => ?_⟩
  · match ms, xs, h with
    | m :: ms, x :: xs, h =>
      have h : (nst x && chkE e C (if m = true then .v else .b) x && chkL es C ms xs) = true := h
      rw [Bool.and_eq_true, Bool.and_eq_true] at h
      obtain ⟨⟨h0, h1⟩, h2⟩ := h
      obtain ⟨ta, pa, ha⟩ := arg_m F ha h1
      obtain ⟨⟨tl, pl, hl⟩, l1, l2, l3⟩ := (hl F).1 _ _ h2
      refine ⟨⟨_, pa_cons pa pl (star_cons h0), fun σ env P H post ex Q hp er xh z q => ha σ env P H _ ex _ hp er xh z fun d v P1 H1 z1 s1 r1 => ?_⟩, fun _ _ z => (by cases z; exact h0), ?_, by rw [List.length_cons, List.length_cons, l3]⟩
      · refine hl σ env P1 H1 _ ex _ s1.hp (er.step s1) (xh.step hp.ok s1) z1 fun ds vs P2 H2 z2 s2 r2 => q _ _ P2 H2 z2 (s1.trans hp.ok s2) ⟨d, ds, v, vs, rfl, rfl, ?_, r2⟩
        cases m with
        | true => exact R.mono s2.up _ _ r1
        | false => exact RB.step s2 r1
      · show (nst x && xs.all nst) = true
        rw [h0, l2]; rfl
  · match xs, h with
    | x :: xs, h =>
      have h : (chkE e C .t x && chkA es C true xs) = true := h
      rw [Bool.and_eq_true] at h
      obtain ⟨h1, h2⟩ := h
      obtain ⟨ta, pa, ha⟩ := (ha F x).2.2 h1
      cases es with
      | nil =>
        match xs, h2 with
        | [], _ => exact ⟨fun pos => ⟨_, pw_and1 pa, ha⟩, fun pos => ⟨_, pw_or1 pa, ha⟩⟩
      | cons e2 es2 =>
        match xs, h2 with
        | y :: xs, h2 =>
          obtain ⟨k1, k2⟩ := (hl F).2.1 (y :: xs) rfl h2
          refine ⟨fun pos => ?_, fun pos => ?_⟩
          · obtain ⟨tb, pb, hb⟩ := k1 pos
            refine ⟨_, pw_and pa pb, fun σ env P H post ex Q hp er xh z q => ha σ env P H _ ex _ hp er xh z fun b P1 H1 z1 s1 => ?_⟩
            cases b with
            | true => exact hb σ env P1 H1 post ex Q s1.hp (er.step s1) (xh.step hp.ok s1) z1 fun b P2 H2 z2 s2 => q b P2 H2 z2 (s1.trans hp.ok s2)
            | false => exact q false P1 H1 z1 s1
          · obtain ⟨tb, pb, hb⟩ := k2 pos
            refine ⟨_, pw_or pa pb, fun σ env P H post ex Q hp er xh z q => ha σ env P H _ ex _ hp er xh z fun b P1 H1 z1 s1 => ?_⟩
            cases b with
            | false => exact hb σ env P1 H1 post ex Q s1.hp (er.step s1) (xh.step hp.ok s1) z1 fun b P2 H2 z2 s2 => q b P2 H2 z2 (s1.trans hp.ok s2)
            | true => exact q true P1 H1 z1 s1
  · match xs, h with
    | x :: xs, h =>
      have h : (chkE e C .v x && chkA es C false xs) = true := h
      rw [Bool.and_eq_true] at h
      obtain ⟨h1, h2⟩ := h
      obtain ⟨ta, pa, ha⟩ := ((ha F x).1 h1).val
      cases es with
      | nil =>
        match xs, h2 with
        | [], _ => exact ⟨fun pos => ⟨_, pe_one pa, ha⟩, fun pos => ⟨_, pe_one pa, ha⟩⟩
      | cons e2 es2 =>
        match xs, h2 with
        | y :: xs, h2 =>
          obtain ⟨k1, k2⟩ := (hl F).2.2.1 (y :: xs) rfl h2
          refine ⟨fun pos => ?_, fun pos => ?_⟩
          · obtain ⟨tb, pb, hb⟩ := k1 pos
            refine ⟨_, pe_and pa pb, fun σ env P H post ex Q hp er xh z q => ha σ env P H _ ex _ hp er xh z fun d v P1 H1 F1 ⟨c, hd, z1⟩ r1 => ?_⟩
            subst hd
            have hv : v = .bl c := by simpa only [R] using r1.r
            have s1 := r1.st
            refine ⟨c, hv, ?_⟩
            cases c with
            | true => exact hb σ env P1 H1 post ex Q s1.hp (er.step s1) (xh.step hp.ok s1) z1 fun d v P2 H2 F2 z2 r2 => q d v P2 H2 F2 z2 (r2.trans hp.ok s1)
            | false => exact q _ _ P1 H1 emp z1 (.of s1 (rbl P1 _))
          · obtain ⟨tb, pb, hb⟩ := k2 pos
            refine ⟨_, pe_or pa pb, fun σ env P H post ex Q hp er xh z q => ha σ env P H _ ex _ hp er xh z fun d v P1 H1 F1 ⟨c, hd, z1⟩ r1 => ?_⟩
            subst hd
            have hv : v = .bl c := by simpa only [R] using r1.r
            have s1 := r1.st
            refine ⟨c, hv, ?_⟩
            cases c with
            | false => exact hb σ env P1 H1 post ex Q s1.hp (er.step s1) (xh.step hp.ok s1) z1 fun d v P2 H2 F2 z2 r2 => q d v P2 H2 F2 z2 (r2.trans hp.ok s1)
            | true => exact q _ _ P1 H1 emp z1 (.of s1 (rbl P1 _))
  · cases es with
    | cons _ _ => cases h1
    | nil =>
      match xs, h with
      | [x], h =>
        have h : (chkE e C .t x && true) = true := h
        rw [Bool.and_true] at h
        obtain ⟨ta, pa, ha⟩ := (ha F x).2.2 h
        exact ⟨_, pts_one pa, ha⟩
      | x :: y :: r, h =>
        have h : (chkE e C .t x && false) = true := h
        simp at h
  · match ms, kws, h with
    | m :: ms, ⟨nm, x, kp⟩ :: kws, h =>
      have h : (nst x && chkE e C (if m = true then .v else .b) x && chkL es C ms (kws.map kwV)) = true := h
      rw [Bool.and_eq_true, Bool.and_eq_true] at h
      obtain ⟨⟨h0, h1⟩, h2⟩ := h
      obtain ⟨ta, pa, ha⟩ := arg_m F ha h1
      obtain ⟨tl, pl, hl⟩ := (hl F).2.2.2.2.1 _ _ h2
      refine ⟨_, pk_cons pa pl, fun σ env P H post ex Q hp er xh z q => ha σ env P H _ ex _ hp er xh z fun d v P1 H1 z1 s1 r1 => ?_⟩
      refine hl σ env P1 H1 _ ex _ s1.hp (er.step s1) (xh.step hp.ok s1) z1 fun ds vs P2 H2 z2 s2 r2 => q _ _ P2 H2 z2 (s1.trans hp.ok s2) ⟨d, ds, v, vs, rfl, rfl, ?_, r2⟩
      cases m with
      | true => exact R.mono s2.up _ _ r1
      | false => exact RB.step s2 r1
  · cases es with
    | cons _ _ =>
      have h : (nst x && chkE e C (if b = true then .v else .b) x && false) = true := h
      simp at h
    | nil =>
      have h : (nst x && chkE e C (if b = true then .v else .b) x && true) = true := h
      rw [Bool.and_true, Bool.and_eq_true] at h
      obtain ⟨ta, pa, ha⟩ := arg_m F ha h.2
      exact ⟨_, pa, fun σ env P H post ex Q hp er xh z q => ha σ env P H _ ex Q hp er xh z q⟩
end
end VI
set_option Elab.async false
set_option linter.all false
set_option maxRecDepth 100000
set_option maxHeartbeats 2000000
/-! VO0: enumerate over a tuple -/
namespace VI
open PySem PySem.Spec PyProof.Rows L2
open AutoSeq1 (wpAny_loadPart')
theorem meets_enum_T (l : Addr) (items : Array Value) (n : Nat) (dct : Option Addr) (sl : Array (Option Value)) :
    Meets (Builtin.«enumerate.__new__» ⟨[.type "enumerate", .ref l], []⟩) (fun _ R s => s.heap.get? l = some { cls := .type "tuple", dict := dct, data := .seq items n, slots := sl } ∧
      R (.ok (.ret (.ref (s.heap.push { cls := .type "tuple_iterator", data := .fields #[.ref l, .int 0 0] }).objs.size)))
        { s with heap := (s.heap.push { cls := .type "tuple_iterator", data := .fields #[.ref l, .int 0 0] }).push { cls := .type "enumerate", data := .fields #[.none, .bool false, .ref s.heap.objs.size, rawInt 0, .none, .none] } }) :=
  .of_wp fun prog w A R s h => by
    obtain ⟨hp, g, d, tk, os⟩ := s; obtain ⟨hl, h⟩ := h
    have hsub := sub_enumerate
    have hL : Heap.IsTuple (Shared.heap ⟨hp, g, d, tk, os⟩) l items := ⟨_, hl, rfl, n, rfl⟩
    wp_walk using wpAny_loadPart' hl
    refine wpAny_stack_any fun st => wpAny_pure ?_
    split
    · rename_i c _ _ _ _ _
      cases (c == Value.type "enumerate")
      · wp_walk using wpAny_loadPart' hl, wpAny_pyIter_tuple hL
        exact ⟨_, rfl, h⟩
      · wp_walk using wpAny_loadPart' hl, wpAny_pyIter_tuple hL
        exact ⟨_, rfl, h⟩
    · wp_walk using wpAny_loadPart' hl, wpAny_pyIter_tuple hL
      exact ⟨_, rfl, h⟩
theorem call_enum_T {prog : Program} {w : World} {A : Around} {E : Value → Shared → Prop} {s : Shared} {l : Addr} {items : Array Value} {Q : Value → Shared → Prop} (hL : s.heap.IsTuple l items)
    (h : ∀ h', IsEnum h' (s.heap.objs.size + 1) s.heap.objs.size 0 .none → h'.IsTupleIter s.heap.objs.size l 0 → h'.objs.size = s.heap.objs.size + 2 →
      (∀ b o, s.heap.get? b = some o → h'.get? b = some o) → Q (.ref (s.heap.objs.size + 1)) { s with heap := h' }) :
    wpAny (model prog w) A (call (.type "enumerate") [.ref l]) Q E s := by
  obtain ⟨⟨c, dct, dt, sl⟩, hl, hc, n, hd⟩ := hL
  replace hc : c = .type "tuple" := hc
  replace hd : dt = .seq items n := hd
  subst hc hd
  refine callType_new F.called_enumerate (by decide) (F.typeCall_enumerate_1 _) (F.newCall_enumerate_1 _) (fun obj => F.args_object_init_2 obj _) F.entry_enumerate_new
    (meets_enum_T l items n dct sl) ⟨hl, ?_⟩
  have hz : (s.heap.push { cls := .type "tuple_iterator", data := .fields #[.ref l, .int 0 0] }).objs.size = s.heap.objs.size + 1 := Heap.size_push ..
  show _ ∧ _
  rw [hz]
  have he : IsEnum ((s.heap.push { cls := .type "tuple_iterator", data := .fields #[.ref l, .int 0 0] }).push
      { cls := .type "enumerate", data := .fields #[.none, .bool false, .ref s.heap.objs.size, rawInt 0, .none, .none] }) (s.heap.objs.size + 1) s.heap.objs.size 0 .none := by
    have := Heap.get?_push_size (s.heap.push { cls := .type "tuple_iterator", data := .fields #[.ref l, .int 0 0] })
      (o := { cls := .type "enumerate", data := .fields #[.none, .bool false, .ref s.heap.objs.size, rawInt 0, .none, .none] }) rfl
    rw [hz] at this; exact this
  refine ⟨⟨_, he, rfl⟩, h _ he ⟨_, Heap.get?_push_of_some _ (Heap.get?_push_size _ rfl), rfl, rfl⟩ (by rw [Heap.size_push, hz]) fun b o x => Heap.get?_push_of_some _ (Heap.get?_push_of_some _ x)⟩
theorem next_enum_end_T {prog : Program} {w : World} {A : Around} {E : Value → Shared → Prop} {s : Shared} {e it l : Addr} {i : Nat} {j : Int} {items : Array Value} {old : Value} {Q : Option Value → Shared → Prop} (hh : A.handled = none)
    (he : IsEnum s.heap e it j old) (hit : s.heap.IsTupleIter it l i) (hl : s.heap.IsTuple l items) (hx : items[i]? = none)
    (hQ : ∀ h', Heap.ExtBut it s.heap h' → Q none { s with heap := h' }) : wpAny (model prog w) A (pyNext (.ref e)) Q E s := by
  have hT : s.TypeIs (.ref e) "enumerate" := ⟨_, he, rfl⟩
  unfold pyNext
  refine wpAny_bind (wpAny_attempt (wpAny_callSpecial?_slot (name := Str.ofString "__next__") hT F.slot_enumerate_next
    (wpAny_call_entry F.slot_enumerate_next hT F.entry_enumerate_next ?_ (F.args_enumerate_next_1 _))))
  show wpAny _ _ (field (.ref e) 2 >>= _) _ _ _
  refine wpAny_bind (wpAny_field he rfl (x := .ref it) rfl ?_)
  refine wpAny_bind (wpAny_nextOf_tuple_end hh hit hl hx fun h' x he' hx' => ?_)
  obtain ⟨o, ho, hc⟩ := hx'
  refine wpAny_bind (wpAny_isInstance (T := "StopIteration") (b := true) ⟨o, ho, hc⟩ isSubtype_stop ?_)
  exact wpAny_pure (hQ _ he')
/-- the tuple at a, each item in a new pair -/
def Iet (K : PySem.W.Frag) (a : Addr) : It :=
  ⟨fun i H => ∃ (xs : List V) (x : V), SqT K H a xs ∧ xs[i]? = some x, fun i H v H' => ∃ T x, v = .ref T ∧ H T = none ∧ H' = upd H T (.tup [.int (i : Nat), x]) ∧ ∀ xs, SqT K H a xs → xs[i]? = some x, fun i H => ∃ xs : List V, SqT K H a xs ∧ xs.length ≤ i⟩
theorem turn_enumT {P : Program} {w : World} {K : PySem.W.Frag} {elts : List Expr} {kk : Nat} {tpos : Pos} (a e it : Addr) (hea : e ≠ a) (hia : a ≠ it) :
    Turn P w K (.Tuple elts kk tpos) (Iet K a) [e, it] e (fun i h => (∃ old, IsEnum h e it ((i : Nat) : Int) old) ∧ h.IsTupleIter it a i ∧ e ≠ it) where
  mem := by simp
  obj := fun i h st b hb => by
    obtain ⟨⟨old, he⟩, ⟨o, ho, hc, hd⟩, _⟩ := st
    have e' : b = e ∨ b = it := by simpa using hb
    rcases e' with z | z
    · rw [z]; exact ⟨_, he, fun v q => nomatch q⟩
    · rw [z]; exact ⟨o, ho, fun v q => by rw [hd] at q; cases q⟩
  keep := fun i h h' st k => let ⟨⟨old, he⟩, hi, hne⟩ := st; ⟨⟨old, k e (by simp) _ he⟩, hi.at fun o q => k it (by simp) o q, hne⟩
  item := by
    intro X hP hw hK hc i pins s σ H E I hf st hg
    subst hP hw hK
    obtain ⟨⟨old, he⟩, hit, hne⟩ := st
    obtain ⟨xs, x, hq, hx⟩ := hg
    obtain ⟨its, rv, p, hz⟩ := I.tuple hq
    obtain ⟨u, hu, ru⟩ := rv.get hx
    have hel : e < s.heap.objs.size := Heap.lt_size he
    have hil : it < s.heap.objs.size := by obtain ⟨_, q, _⟩ := hit; exact Heap.lt_size q
    have hlt : i < its.toArray.size := by
      have := (List.getElem?_eq_some_iff.mp hu).1
      simpa using this
    refine wpAny_pyNext_enum_itemD (D := Draws.tuple (prog := X.prog) (w := X.w) (A := X.A.in1) (by exact I.ok.hd hc) it a hia its.toArray) he ⟨hit, show s.heap.IsTuple a its.toArray from p⟩ hlt hne (by simp [hne, hea]) fun y h' tk hy ho hst' hT hsz hk => ?_
    obtain ⟨hit', ht'⟩ := hst'
    have hyu : y = u := by
      have hu' : its.toArray[i]? = some u := by simpa using hu
      rw [hu'] at hy
      exact (Option.some.inj hy).symm
    subst hyu
    refine ⟨_, rfl, wpAny_letOwnedTupleGo_enum (s := { s with heap := h', toks := tk + 1 }) ho fun h'' he' sb => ?_⟩
    have hT2 : h''.get? s.heap.objs.size = some { cls := .type "tuple", data := .seq #[.int i tk, y] } := (sb.2 _ (Nat.ne_of_gt hel)).trans hT
    have new : ObjOk X.prog X.w (upd H s.heap.objs.size (.tup [.int (i : Nat), x])) h'' s.heap.objs.size (.tup [.int (i : Nat), x]) :=
      ⟨by show 2 ≤ sizeLine; decide, [.int i tk, y], .cons ⟨_, rfl⟩ (.cons ru .nil), ⟨_, hT2, rfl, _, rfl⟩⟩
    have I1 : Inv X pins σ (upd H s.heap.objs.size (.tup [.int (i : Nat), x])) { s with heap := h'', toks := tk + 1 } :=
      I.turnedNew (ch := [e, it]) (fun b ob hb q => (sb.2 b (fun z => hb (by simp [z]))).trans (hk b ob (fun z => hb (by simp [z])) (fun z => hb (by simp [z])) q)) hf (Nat.le_refl _) new
    refine ⟨.ref s.heap.objs.size, _, I1, rfl, ⟨_, x, rfl, I.hok.fresh (Nat.le_refl _), rfl, fun ys hy => by rw [I.tuple_inj hy hq]; exact hx⟩, ⟨⟨y, ?_⟩, hit'.at fun o q => (sb.2 it (Ne.symm hne)).trans q, hne⟩, fun b hb => ?_⟩
    · have e1 : ((i + 1 : Nat) : Int) = (i : Int) + 1 := by omega
      rw [e1]; exact he'
    · have hb' : b < s.heap.objs.size := by
        have e' : b = e ∨ b = it := by simpa using hb
        rcases e' with z | z
        · rw [z]; exact hel
        · rw [z]; exact hil
      rw [upd_ne (Nat.ne_of_lt hb')]
      exact (hf b hb).1
  done := by
    intro X hP hw hK hc i pins s σ H E I hf st hg
    subst hP hw hK
    obtain ⟨⟨old, he⟩, hit, hne⟩ := st
    obtain ⟨xs, hq, hx⟩ := hg
    obtain ⟨its, rv, p, hz⟩ := I.tuple hq
    obtain ⟨f0, f1, f2, f3, f4, f5⟩ := hf it (by simp)
    have hl := rv.length
    exact next_enum_end_T (I.ok.hd hc) he hit (show s.heap.IsTuple a its.toArray from p) (by simp; omega) fun h' eb => ⟨rfl, I.turned (t' := s.toks) (fun b o hb q => eb b o hb q) f0 f1 f3 f4 f5⟩
  self := fun A i s Q E st h => let ⟨⟨_, he⟩, _⟩ := st; wpAny_pyIter_enum he h
theorem pi_enumB {X : Cx} {e : Expr} {ta : TA} {p pos tpos : Pos} {elts : List Expr} {kk : Nat} (hg : Gl X "enumerate") (hm : X.mg "enumerate" = none) (ha : PA X [e] ta) (hs : starEach [e] X.env = [(false, eval e X.env)]) :
    PI X (.Tuple elts kk tpos) (.Call (.Name "enumerate" p) [e] [] pos) (fun σ H R => ta σ H fun vs H1 => ∃ a, vs = [.ref a] ∧ ((∃ xs, SqL X.K H1 a xs ∧ R (Ite X.K a) H1) ∨ (∃ xs, SqT X.K H1 a xs ∧ R (Iet X.K a) H1))) := by
  refine ⟨fun pins s σ H R I h => ?_⟩
  refine Call_ (ld_blt I hg hm boot_enumerate (PyProof.Rows.callWith_type1 (thn (ha.run pos pins s σ H _ I h) fun us s1 ⟨vs, H1, I1, r1, q1⟩ => ?_) hs rfl))
  obtain ⟨a, ex, q⟩ := q1
  subst ex
  cases r1 with
  | cons r rr =>
    cases rr
    cases r
    have fin : ∀ b, b = s1.heap.objs.size + 1 ∨ b = s1.heap.objs.size → FpOk X pins H1 b := fun b e' => by
      have hle : s1.heap.objs.size ≤ b := by
        rcases e' with z | z
        · rw [z]; exact Nat.le_add_right _ _
        · rw [z]; exact Nat.le_refl _
      exact I1.fpOk hle (I1.hok.fresh hle)
    rcases q with ⟨xs, hq, q⟩ | ⟨xs, hq, q⟩
    · obtain ⟨its, rv, p', hz⟩ := I1.list hq
      refine call_enumerate_list p'.isList fun h' he hit hsz hk => wpAny_pyIter_enum he ?_
      have I2 : Inv X pins σ H1 { s1 with heap := h' } := I1.kept (t' := s1.toks) hk
      exact ⟨s1.heap.objs.size + 1, [s1.heap.objs.size + 1, s1.heap.objs.size], _, _, H1, rfl, I2, turn_enum a (s1.heap.objs.size + 1) s1.heap.objs.size, ⟨⟨.none, he⟩, hit, Nat.succ_ne_self _⟩, fun b hb => fin b (by simpa using hb), q⟩
    · obtain ⟨its, rv, p', hz⟩ := I1.tuple hq
      have hat : a < s1.heap.objs.size := by obtain ⟨_, q, _⟩ := p'; exact Heap.lt_size q
      refine call_enum_T (show s1.heap.IsTuple a its.toArray from p') fun h' he hit hsz hk => wpAny_pyIter_enum he ?_
      have I2 : Inv X pins σ H1 { s1 with heap := h' } := I1.kept (t' := s1.toks) hk
      exact ⟨s1.heap.objs.size + 1, [s1.heap.objs.size + 1, s1.heap.objs.size], _, _, H1, rfl, I2, turn_enumT a (s1.heap.objs.size + 1) s1.heap.objs.size (Nat.ne_of_gt (Nat.lt_succ_of_lt hat)) (Nat.ne_of_lt hat), ⟨⟨.none, he⟩, hit, Nat.succ_ne_self _⟩, fun b hb => fin b (by simpa using hb), q⟩
/-- over a list or a tuple -/
theorem pi_seq {X : Cx} {tg l : Expr} {tl : TE} (hl : PE X l tl) : PI X tg l (fun σ H R => tl σ H fun x H1 => ∃ a, x = .ref a ∧ ((∃ xs, SqL X.K H1 a xs ∧ R (Itl X.K a) H1) ∨ (∃ xs, SqT X.K H1 a xs ∧ R (Itt X.K a) H1))) := by
  refine ⟨fun pins s σ H R I h => ?_⟩
  refine thn (hl.run pins s σ H _ I h) fun v s1 ⟨x, H1, I1, r1, q1⟩ => ?_
  obtain ⟨a, e, q⟩ := q1
  subst e
  cases r1
  have fin : ∀ b ∈ [s1.heap.objs.size], FpOk X pins H1 b := fun b hb => by
    have e : b = s1.heap.objs.size := by simpa using hb
    subst e
    exact I1.fpOk (Nat.le_refl _) (I1.hok.fresh (Nat.le_refl _))
  rcases q with ⟨xs, hq, q⟩ | ⟨xs, hq, q⟩
  · obtain ⟨its, rv, p, hz⟩ := I1.list hq
    refine wpAny_pyIter_list p.isList ?_
    exact ⟨s1.heap.objs.size, [s1.heap.objs.size], _, _, H1, rfl, I1.kept (t' := s1.toks) fun b o e => Heap.get?_push_of_some _ e, turn_list a _, ⟨_, Heap.get?_push_size _ rfl, rfl, rfl⟩, fin, q⟩
  · obtain ⟨its, rv, p, hz⟩ := I1.tuple hq
    refine wpAny_pyIter_tuple (show s1.heap.IsTuple a its.toArray from p) ?_
    exact ⟨s1.heap.objs.size, [s1.heap.objs.size], _, _, H1, rfl, I1.kept (t' := s1.toks) fun b o e => Heap.get?_push_of_some _ e, turn_tuple a _, ⟨_, Heap.get?_push_size _ rfl, rfl, rfl⟩, fin, q⟩
end VI
set_option Elab.async false
set_option linter.all false
set_option maxRecDepth 100000
set_option maxHeartbeats 2000000
/-! VO1: what is walked, where items go -/
namespace VI
open PySem PySem.Spec PyProof.Rows L2

/-- an iterator over data -/
def ItD (W : Wd) (J : It) (P S : Hp) (ds : List D) : Prop := ∀ (i : Nat) (P' H : Hp), HP W P' H → Ex P P' → Ex S H →
  (i < ds.length → J.go i H) ∧ (ds.length ≤ i → J.stop i H) ∧ ∀ x H', i < ds.length → J.yld i H x H' → ∃ d P'', ds[i]? = some d ∧ Stp W P' H P'' H' ∧ R W.dk P'' d x
section
variable {W : Wd} {K : PySem.W.Frag} {P1 H1 S : Hp}
theorem itd_list {a : Addr} {xs : List V} {ds : List D} (h : ∀ P' H, HP W P' H → Ex P1 P' → Ex S H → H a = some (.lst xs)) (r : Rs W.dk P1 ds xs) : ItD W (Itl K a) P1 S ds := by
  intro i P' H hp e1 e2
  have q : SqL K H a xs := SqL.of (h P' H hp e1 e2)
  refine ⟨fun hi => ?_, fun hi => ⟨xs, q, by rw [← r.len]; exact hi⟩, fun x H' hi ⟨e, y⟩ => ?_⟩
  · obtain ⟨v, hv, _⟩ := r.get (show ds[i]? = some ds[i] by simp [hi])
    exact ⟨xs, v, q, hv⟩
  · subst e
    obtain ⟨d, hd, rd⟩ := r.get' (y xs q)
    exact ⟨d, P', hd, .refl hp, R.mono e1 _ _ rd⟩
theorem itd_tup {a : Addr} {xs : List V} {ds : List D} (h : ∀ P' H, HP W P' H → Ex P1 P' → Ex S H → H a = some (.tup xs)) (r : Rs W.dk P1 ds xs) : ItD W (Itt K a) P1 S ds := by
  intro i P' H hp e1 e2
  have q : SqT K H a xs := SqT.of (h P' H hp e1 e2)
  refine ⟨fun hi => ?_, fun hi => ⟨xs, q, by rw [← r.len]; exact hi⟩, fun x H' hi ⟨e, y⟩ => ?_⟩
  · obtain ⟨v, hv, _⟩ := r.get (show ds[i]? = some ds[i] by simp [hi])
    exact ⟨xs, v, q, hv⟩
  · subst e
    obtain ⟨d, hd, rd⟩ := r.get' (y xs q)
    exact ⟨d, P', hd, .refl hp, R.mono e1 _ _ rd⟩
def enD (ds : List D) : List D := ds.zipIdx.map fun p => .tup [.int (p.2 : Nat), p.1]
theorem enD_len (ds : List D) : (enD ds).length = ds.length := by unfold enD; rw [List.length_map, List.length_zipIdx]
theorem enD_get {ds : List D} {i : Nat} {d : D} (h : ds[i]? = some d) : (enD ds)[i]? = some (.tup [.int (i : Nat), d]) := by
  unfold enD
  rw [List.getElem?_map, List.getElem?_zipIdx, h]
  simp
theorem itd_enumL {a : Addr} {xs : List V} {ds : List D} (h : ∀ P' H, HP W P' H → Ex P1 P' → Ex S H → H a = some (.lst xs)) (r : Rs W.dk P1 ds xs) : ItD W (Ite K a) P1 S (enD ds) := by
  intro i P' H hp e1 e2
  have q : SqL K H a xs := SqL.of (h P' H hp e1 e2)
  rw [enD_len]
  refine ⟨fun hi => ?_, fun hi => ⟨xs, q, by rw [← r.len]; exact hi⟩, fun x H' hi ⟨T, u, e3, e4, e5, y⟩ => ?_⟩
  · obtain ⟨v, hv, _⟩ := r.get (show ds[i]? = some ds[i] by simp [hi])
    exact ⟨xs, v, q, hv⟩
  · subst e3 e5
    obtain ⟨d, hd, rd⟩ := r.get' (y xs q)
    have z := Res.tup (W := W) hp (a := T) (xs := [.int (i : Nat), u]) (ds := [.int (i : Nat), d]) e4 (.cons (rint P' _) (.cons (R.mono e1 _ _ rd) Rs.nil))
    exact ⟨_, _, enD_get hd, z.st, z.r⟩
theorem itd_enumT {a : Addr} {xs : List V} {ds : List D} (h : ∀ P' H, HP W P' H → Ex P1 P' → Ex S H → H a = some (.tup xs)) (r : Rs W.dk P1 ds xs) : ItD W (Iet K a) P1 S (enD ds) := by
  intro i P' H hp e1 e2
  have q : SqT K H a xs := SqT.of (h P' H hp e1 e2)
  rw [enD_len]
  refine ⟨fun hi => ?_, fun hi => ⟨xs, q, by rw [← r.len]; exact hi⟩, fun x H' hi ⟨T, u, e3, e4, e5, y⟩ => ?_⟩
  · obtain ⟨v, hv, _⟩ := r.get (show ds[i]? = some ds[i] by simp [hi])
    exact ⟨xs, v, q, hv⟩
  · subst e3 e5
    obtain ⟨d, hd, rd⟩ := r.get' (y xs q)
    have z := Res.tup (W := W) hp (a := T) (xs := [.int (i : Nat), u]) (ds := [.int (i : Nat), d]) e4 (.cons (rint P' _) (.cons (R.mono e1 _ _ rd) Rs.nil))
    exact ⟨_, _, enD_get hd, z.st, z.r⟩
theorem itd_rng (a b : Int) : ItD W (Itr a (b - a).toNat) P1 S (rngD a b) := by
  intro i P' H hp e1 e2
  have hl : (rngD a b).length = (b - a).toNat := by unfold rngD; rw [List.length_map, List.length_range]
  rw [hl]
  refine ⟨fun hi => hi, fun hi => hi, fun x H' hi ⟨e, y⟩ => ?_⟩
  subst e y
  refine ⟨.int (a + (i : Nat)), P', ?_, .refl hp, rint P' _⟩
  unfold rngD
  rw [List.getElem?_map, List.getElem?_range hi]; rfl
/-- a list or tuple that is read, as long as it is walked -/
theorem src_keep {d : D} {v : V} {ds : List D} (hp : HP W P1 H1) (r : RB W P1 H1 d v) (e : seqD d = some ds) : ∃ a xs S, v = .ref a ∧ Rs W.dk P1 ds xs ∧ Ex S H1 ∧ (∀ a, S a ≠ none → ¬ W.ad a) ∧
    ((∀ P' H, HP W P' H → Ex P1 P' → Ex S H → H a = some (.lst xs)) ∨ (∀ P' H, HP W P' H → Ex P1 P' → Ex S H → H a = some (.tup xs))) := by
  cases d with
  | tup es =>
    cases e
    obtain ⟨a, xs, rfl, h1, r⟩ := r.tup
    exact ⟨a, xs, emp, rfl, r, fun _ _ z => (nomatch z), fun _ z => absurd rfl z, .inr fun P' H hp e1 _ => hp.sub _ _ (e1 _ _ h1)⟩
  | lst es =>
    cases e
    rcases r with r | ⟨a, o, rfl, h2, h3, rc⟩
    · simp only [R] at r
      obtain ⟨a, xs, rfl, h1, r⟩ := r
      exact ⟨a, xs, emp, rfl, r, fun _ _ z => (nomatch z), fun _ z => absurd rfl z, .inl fun P' H hp e1 _ => hp.sub _ _ (e1 _ _ h1)⟩
    · obtain ⟨xs, rfl, r⟩ := rc
      refine ⟨a, xs, one a (.lst xs), rfl, r, fun b o z => ?_, fun b z => ?_, .inl fun P' H hp _ e2 => e2 _ _ one_at⟩
      · have hb := one_of (a := a) (o := .lst xs) (b := b) (by rw [z]; exact fun q => nomatch q)
        subst hb
        rw [one_at] at z
        cases z
        exact h2
      · rw [one_of z]; exact h3
  | _ => cases e

theorem src_keep' {b : Bool} {d : D} {v : V} {ds : List D} (hp : HP W P1 H1) (r : if b = true then R W.dk P1 d v else RB W P1 H1 d v) (e : seqD d = some ds) : ∃ a xs S, v = .ref a ∧ Rs W.dk P1 ds xs ∧ Ex S H1 ∧ (∀ a, S a ≠ none → ¬ W.ad a) ∧
    ((∀ P' H, HP W P' H → Ex P1 P' → Ex S H → H a = some (.lst xs)) ∨ (∀ P' H, HP W P' H → Ex P1 P' → Ex S H → H a = some (.tup xs))) ∧ (b = true → S = emp) := by
  cases b with
  | false =>
    obtain ⟨a, xs, S, h1, h2, h3, h4, h5⟩ := src_keep hp r e
    exact ⟨a, xs, S, h1, h2, h3, h4, h5, fun z => by cases z⟩
  | true =>
    have r : R W.dk P1 d v := r
    cases d with
    | tup es =>
      cases e
      simp only [R] at r
      obtain ⟨a, xs, rfl, h1, r⟩ := r
      exact ⟨a, xs, emp, rfl, r, fun _ _ z => (nomatch z), fun _ z => absurd rfl z, .inr fun P' H hp e1 _ => hp.sub _ _ (e1 _ _ h1), fun _ => rfl⟩
    | lst es =>
      cases e
      simp only [R] at r
      obtain ⟨a, xs, rfl, h1, r⟩ := r
      exact ⟨a, xs, emp, rfl, r, fun _ _ z => (nomatch z), fun _ z => absurd rfl z, .inl fun P' H hp e1 _ => hp.sub _ _ (e1 _ _ h1), fun _ => rfl⟩
    | _ => cases e
theorem RM.rb' {b : Bool} : ∀ {n : Nat} {ds : List D} {vs : List V}, RM W P1 H1 (List.replicate n b) ds vs → Paired (RB W P1 H1) ds vs
  | 0, _, _, h => by obtain ⟨rfl, rfl⟩ := h; exact .nil
  | n + 1, _, _, h => by
    obtain ⟨d, ds', v, vs', rfl, rfl, h1, h2⟩ := h
    refine .cons ?_ (RM.rb' h2)
    cases b with
    | true => exact .inl h1
    | false => exact h1
theorem RM.one {b : Bool} {d : D} {vs : List V} (h : RM W P1 H1 [b] [d] vs) : ∃ v, vs = [v] ∧ (if b = true then R W.dk P1 d v else RB W P1 H1 d v) := by
  obtain ⟨d, ds', v, vs', e, rfl, h1, h2⟩ := h
  obtain ⟨_, rfl⟩ := h2
  cases e
  exact ⟨v, rfl, h1⟩
end

/-! ### sources -/
section
variable {W : Wd} {RX : RXT} {T : Tb} {k : Nat}
/-- the source of a walk -/
def SI (W : Wd) (RX : RXT) (C : Cf) (X : Cx) (E : XK) (b : Bool) (tg iter : Expr) (s : Src) (m : SmL) : Prop := ∃ wi : TI, PI X tg iter wi ∧ ∀ (σ : L2.St) (env : Env) (P H : Hp) (post : List D → Prop) (ex : XD → Prop) (Q : It → Hp → Prop), HP W P H → ER W C P H σ env → XH W RX E P H ex →
  m.l env (fun ds => wSrc s ds post) ex → (∀ ds J P1 H1 S, post ds → Stp W P H P1 H1 → ItD W J P1 S ds → Ex S H1 → (∀ a, S a ≠ none → ¬ W.ad a) → (b = true → S = emp) → Q J H1) → wi σ H Q
theorem rng_map (n : Int) : rngD 0 n = (List.range n.toNat).map fun i => .int (i : Nat) := by
  unfold rngD
  rw [Int.sub_zero]
  exact List.map_congr_left fun i _ => by rw [Int.zero_add]
theorem src_S {b : Bool} {s : Src} {its : CL} {C : Cf} {X : Cx} {E : XK} (F : XF W RX T k C X E) (hl : SndL W RX T k its) {tg iter : Expr} {xs : List Expr} (h1 : srcE C.sc s iter = some xs) (h2 : s.tg tg = true) (h3 : chkL its C (List.replicate s.n b) xs = true) :
    SI W RX C X E b tg iter s (wL T its) := by
  cases s with
  | seq =>
    have h1 : (if nst iter = true then some [iter] else none) = some xs := h1
    split at h1
    · cases h1
      obtain ⟨t, pe, ht⟩ := (hl F).2.2.2.2.2 b iter h3
      refine ⟨_, pi_seq pe, fun σ env P H post ex Q hp er xh z q => ht σ env P H _ ex _ hp er xh z fun d v P1 H1 hd st r => ?_⟩
      obtain ⟨es, e1, hq⟩ := hd
      obtain ⟨a, ys, S, rfl, rs, s1, s2, s3, s4⟩ := src_keep' st.hp r e1
      rcases s3 with s3 | s3
      · exact ⟨a, rfl, .inl ⟨ys, SqL.of (s3 P1 H1 st.hp (Ex.refl _) s1), q es _ P1 H1 S hq st (itd_list s3 rs) s1 s2 s4⟩⟩
      · exact ⟨a, rfl, .inr ⟨ys, SqT.of (s3 P1 H1 st.hp (Ex.refl _) s1), q es _ P1 H1 S hq st (itd_tup s3 rs) s1 s2 s4⟩⟩
    · cases h1
  | rng1 =>
    match iter, h1 with
    | .Call (.Name x p) [a] [] pos, h1 =>
      have h1 : (if (decide (x = "range") && glb C.sc x) = true then some [a] else none) = some xs := h1
      split at h1
      · rename_i hx
        cases h1
        simp only [Bool.and_eq_true, decide_eq_true_eq] at hx
        obtain ⟨rfl, hg⟩ := hx
        obtain ⟨⟨t, pa, ht⟩, _, hn, _⟩ := (hl F).1 _ _ h3
        have hn : nst a = true := by simpa using hn
        refine ⟨_, pi_range1 (F.gl hg).1 F.rg.1 pa (star_cons hn), fun σ env P H post ex Q hp er xh z q => ht σ env P H _ ex _ hp er xh z fun ds vs P1 H1 hd st rm => ?_⟩
        match ds, hd with
        | [.int n], ⟨b1, b2, hq⟩ =>
          obtain ⟨v, rfl, r⟩ := p1 (RM.rb' (n := 1) rm)
          refine ⟨n, by rw [r.int], b2, b1, q _ _ P1 H1 emp hq st ?_ (fun _ _ z => (nomatch z)) (fun _ z => absurd rfl z) fun _ => rfl⟩
          have := itd_rng (W := W) (P1 := P1) (S := emp) 0 n
          rw [rng_map, Int.sub_zero] at this
          exact this
      · cases h1
  | rng2 =>
    match iter, h1 with
    | .Call (.Name x p) [a, b] [] pos, h1 =>
      have h1 : (if (decide (x = "range") && glb C.sc x) = true then some [a, b] else none) = some xs := h1
      split at h1
      · rename_i hx
        cases h1
        simp only [Bool.and_eq_true, decide_eq_true_eq] at hx
        obtain ⟨rfl, hg⟩ := hx
        obtain ⟨⟨t, pa, ht⟩, _, hn, _⟩ := (hl F).1 _ _ h3
        have hn : nst a = true ∧ nst b = true := by simpa using hn
        refine ⟨_, pi_range2 (F.gl hg).1 F.rg.1 pa (by rw [star_cons hn.1, star_cons hn.2]; rfl) (by rw [star_cons hn.2]; rfl), fun σ env P H post ex Q hp er xh z q => ht σ env P H _ ex _ hp er xh z fun ds vs P1 H1 hd st rm => ?_⟩
        match ds, hd with
        | [.int i, .int j], ⟨⟨b1, b2, b3, b4⟩, hq⟩ =>
          obtain ⟨v, u, rfl, r1, r2⟩ := p2 (RM.rb' (n := 2) rm)
          exact ⟨i, j, by rw [r1.int, r2.int], ⟨b1, b2, b3, b4⟩, q _ _ P1 H1 emp hq st (itd_rng i j) (fun _ _ z => (nomatch z)) (fun _ z => absurd rfl z) fun _ => rfl⟩
      · cases h1
  | enum =>
    match iter, h1 with
    | .Call (.Name x p) [a] [] pos, h1 =>
      have h1 : (if (decide (x = "enumerate") && glb C.sc x) = true then some [a] else none) = some xs := h1
      split at h1
      · rename_i hx
        cases h1
        simp only [Bool.and_eq_true, decide_eq_true_eq] at hx
        obtain ⟨rfl, hg⟩ := hx
        obtain ⟨⟨t, pa, ht⟩, _, hn, _⟩ := (hl F).1 _ _ h3
        have hn : nst a = true := by simpa using hn
        match tg, h2 with
        | .Tuple elts kk tpos, _ =>
          refine ⟨_, pi_enumB (F.gl hg).1 F.rg.2.1 pa (star_cons hn), fun σ env P H post ex Q hp er xh z q => ht σ env P H _ ex _ hp er xh z fun ds vs P1 H1 hd st rm => ?_⟩
          match ds, hd with
          | [d], ⟨es, e1, hq⟩ =>
            obtain ⟨v, rfl, r⟩ := RM.one rm
            obtain ⟨a, ys, S, rfl, rs, s1, s2, s3, s4⟩ := src_keep' st.hp r e1
            rcases s3 with s3 | s3
            · exact ⟨a, rfl, .inl ⟨ys, SqL.of (s3 P1 H1 st.hp (Ex.refl _) s1), q _ _ P1 H1 S hq st (itd_enumL s3 rs) s1 s2 s4⟩⟩
            · exact ⟨a, rfl, .inr ⟨ys, SqT.of (s3 P1 H1 st.hp (Ex.refl _) s1), q _ _ P1 H1 S hq st (itd_enumT s3 rs) s1 s2 s4⟩⟩
      · cases h1
  | zip => cases iter <;> cases h1

/-! ### targets -/
theorem assign_each {env : PySem.Env} : ∀ {C : Cf} {is : List Nat} {es : List Expr}, chkTs C is es = true → (assignEach es env).length = is.length ∧ (assignEach es env).findIdx? (·.1) = none
  | _, [], [], _ => ⟨rfl, rfl⟩
  | C, i :: is, e :: es, h => by
    cases e with
    | Name x p =>
      have h : (setb C i x && chkTs C is es) = true := h
      rw [Bool.and_eq_true] at h
      obtain ⟨h1, h2⟩ := assign_each (env := env) h.2
      refine ⟨congrArg (· + 1) h1, ?_⟩
      show List.findIdx? (·.1) ((false, assign (.Name x p) env) :: assignEach es env) = none
      rw [List.findIdx?_cons, h2]; rfl
    | _ => cases h
  | _, [], _ :: _, h => by cases h
  | _, _ :: _, [], h => by cases h
theorem wipe_get {σ : L2.St} : ∀ (is : List Nat) (j : Nat), (wipe σ is)[j]? = if j ∈ is then (σ[j]?).map (fun _ => none) else σ[j]?
  | [], j => by simp [wipe]
  | i :: is, j => by
    show ((wipe σ is).set i none)[j]? = _
    rw [List.getElem?_set]
    have ih := wipe_get (σ := σ) is j
    have hl := wipe_length σ is
    by_cases e : i = j
    · subst e
      simp only [List.mem_cons, true_or, if_true]
      by_cases hlt : i < σ.length
      · rw [if_pos (by rw [hl]; exact hlt)]; simp [hlt]
      · rw [if_neg (by rw [hl]; exact hlt), List.getElem?_eq_none (by omega)]; rfl
    · rw [if_neg e, ih]
      have : (j ∈ i :: is) ↔ j ∈ is := by simp [Ne.symm e]
      simp only [this]
theorem wipe_set {σ : L2.St} {is : List Nat} {i : Nat} {v : Option V} (h : i ∈ is) : wipe (σ.set i v) is = wipe σ is := by
  apply List.ext_getElem?
  intro j
  rw [wipe_get, wipe_get]
  by_cases hj : j ∈ is
  · rw [if_pos hj, if_pos hj, List.getElem?_set]
    by_cases e : i = j
    · subst e
      rw [if_pos rfl]
      by_cases hlt : i < σ.length
      · simp [hlt]
      · rw [if_neg hlt, List.getElem?_eq_none (by omega)]
    · rw [if_neg e]
  · rw [if_neg hj, if_neg hj, List.getElem?_set, if_neg fun (e : i = j) => hj (e ▸ h)]
theorem wipeE_len (env : Env) : ∀ is, (wipeE env is).length = env.length
  | [] => rfl
  | i :: is => by show ((wipeE env is).set i none).length = _; rw [List.length_set, wipeE_len env is]
theorem wipeE_some {env : Env} {i : Nat} {d : D} : ∀ {is : List Nat}, (wipeE env is)[i]? = some (some d) → env[i]? = some (some d) ∧ i ∉ is
  | [], h => ⟨h, by simp⟩
  | j :: is, h => by
    have h : ((wipeE env is).set j none)[i]? = some (some d) := h
    rw [List.getElem?_set] at h
    split at h
    · split at h <;> cases h
    · rename_i ne
      obtain ⟨h1, h2⟩ := wipeE_some h
      exact ⟨h1, by simp only [List.mem_cons, not_or]; exact ⟨fun e => ne e.symm, h2⟩⟩
/-- at a block's start -/
theorem ER.blk {C : Cf} {P H : Hp} {σ : L2.St} {env : Env} (h : ER W C P H σ env) (scope : Scope) (is : List Nat) : ER W (C.blk scope is) P H (wipe σ is) (wipeE env is) := by
  refine ⟨by rw [wipeE_len, wipe_length]; exact h.ln, fun i d hv e => ?_, fun i d hv e => ?_⟩
  · obtain ⟨e1, e2⟩ := wipeE_some e
    have hv : C.sv i = true := by
      have hv : (decide (i ∈ is) || C.sv i) = true := hv
      simpa [e2] using hv
    obtain ⟨v, a, b⟩ := h.v i d hv e1
    exact ⟨v, by rw [wipe_out e2]; exact a, b⟩
  · obtain ⟨e1, e2⟩ := wipeE_some e
    obtain ⟨v, a, b⟩ := h.b i d hv e1
    exact ⟨v, by rw [wipe_out e2]; exact a, b⟩
theorem ER.set {C : Cf} {P H : Hp} {σ : L2.St} {env : Env} (h : ER W C P H σ env) {i : Nat} {d : D} {v : V} (r : R W.dk P d v) : ER W C P H (σ.set i (some v)) (env.set i (some d)) := by
  have key : ∀ (j : Nat) e, (env.set i (some d))[j]? = some (some e) → (i = j ∧ e = d ∧ (σ.set i (some v))[j]? = some (some v)) ∨ (i ≠ j ∧ env[j]? = some (some e) ∧ (σ.set i (some v))[j]? = σ[j]?) := by
    intro j e he
    rw [List.getElem?_set] at he
    split at he
    · rename_i hij
      subst hij
      split at he
      · rename_i hlt
        cases he
        exact .inl ⟨rfl, rfl, by rw [List.getElem?_set_self (by rw [← h.ln]; exact hlt)]⟩
      · cases he
    · rename_i hij
      exact .inr ⟨hij, he, by rw [List.getElem?_set_ne hij]⟩
  refine ⟨by rw [List.length_set, List.length_set]; exact h.ln, fun j e hv he => ?_, fun j e hv he => ?_⟩
  · rcases key j e he with ⟨_, rfl, z⟩ | ⟨_, z1, z2⟩
    · exact ⟨v, z, r⟩
    · rw [z2]; exact h.v j e hv z1
  · rcases key j e he with ⟨_, rfl, z⟩ | ⟨_, z1, z2⟩
    · exact ⟨v, z, .inl r⟩
    · rw [z2]; exact h.b j e hv z1
/-- slots that are set -/
def setV : List Nat → List V → L2.St → L2.St
  | i :: is, v :: vs, σ => setV is vs (σ.set i (some v))
  | _, _, σ => σ
theorem setV_wipe {js : List Nat} : ∀ {is : List Nat} {vs : List V} {σ : L2.St}, (∀ i ∈ is, i ∈ js) → wipe (setV is vs σ) js = wipe σ js
  | [], _, _, _ => rfl
  | i :: is, [], _, _ => rfl
  | i :: is, v :: vs, σ, h => by
    show wipe (setV is vs (σ.set i (some v))) js = _
    rw [setV_wipe fun j hj => h j (List.mem_cons_of_mem _ hj), wipe_set (h i List.mem_cons_self)]
theorem ER.sets {C : Cf} {P H : Hp} : ∀ {is : List Nat} {ds : List D} {vs : List V} {σ : L2.St} {env env' : Env}, ER W C P H σ env → Rs W.dk P ds vs → setAll is ds env = some env' → ER W C P H (setV is vs σ) env'
  | [], [], vs, σ, env, env', h, r, e => by
    simp only [Rs] at r
    subst r
    have e : some env = some env' := e
    cases e
    exact h
  | i :: is, d :: ds, vs, σ, env, env', h, r, e => by
    simp only [Rs] at r
    obtain ⟨v, r', rfl, r1, r2⟩ := r
    show ER W C P H (setV is r' (σ.set i (some v))) env'
    exact ER.sets (h.set r1) r2 e
  | [], _ :: _, _, _, _, _, _, _, e => by cases e
  | _ :: _, [], _, _, _, _, _, _, e => by cases e
theorem tgs_S {C : Cf} {X : Cx} {E : XK} (F : XF W RX T k C X E) : ∀ {is : List Nat} {es : List Expr}, chkTs C is es = true → ∃ g : TGs, PGs X es g ∧ ∀ (vs : List V) (σ : L2.St) (H : Hp) (Q : L2.St → Hp → Prop), vs.length = is.length → Q (setV is vs σ) H → g vs σ H Q
  | [], [], _ => ⟨_, pgs_nil, fun vs σ H Q hl q => by cases vs with | nil => exact ⟨rfl, q⟩ | cons _ _ => cases hl⟩
  | i :: is, e :: es, h => by
    cases e with
    | Name x p =>
      have h : (setb C i x && chkTs C is es) = true := h
      rw [Bool.and_eq_true] at h
      obtain ⟨g, pg, hg⟩ := tgs_S F h.2
      obtain ⟨a, b, c⟩ := F.set h.1
      refine ⟨_, pgs_cons (pg_name (by rw [F.hN]; exact F.nd) a b c) pg, fun vs σ H Q hl q => ?_⟩
      cases vs with
      | nil => cases hl
      | cons v vs => exact ⟨v, vs, rfl, hg vs _ H Q (by simpa using hl) q⟩
    | _ => cases h
  | [], _ :: _, h => by cases h
  | _ :: _, [], h => by cases h
theorem setAll_len : ∀ {is : List Nat} {ds : List D} {env env' : Env}, setAll is ds env = some env' → ds.length = is.length
  | [], [], _, _, _ => rfl
  | i :: is, d :: ds, env, env', h => congrArg (· + 1) (setAll_len (is := is) (ds := ds) h)
  | [], _ :: _, _, _, h => by cases h
  | _ :: _, [], _, _, h => by cases h
theorem tg_S {C : Cf} {X : Cx} {E : XK} (F : XF W RX T k C X E) {tg : Tg} {e : Expr} (h : chkTg C tg e = true) : ∃ g : TG, PG X e g ∧ ∀ (d : D) (v : V) (σ : L2.St) (env env' : Env) (P H H0 : Hp) (Q : L2.St → Hp → Prop), HP W P H → ER W C P H0 σ env → R W.dk P d v →
    tg.bind d env = some env' → (∀ σ', ER W C P H0 σ' env' → (∀ js : List Nat, (∀ i ∈ tg.slots, i ∈ js) → wipe σ' js = wipe σ js) → Q σ' H) → g v σ H Q := by
  cases tg with
  | one i =>
    cases e with
    | Name x p =>
      obtain ⟨a, b, c⟩ := F.set h
      refine ⟨_, pg_name (by rw [F.hN]; exact F.nd) a b c, fun d v σ env env' P H H0 Q hp er r hb q => ?_⟩
      have hb : some (env.set i (some d)) = some env' := hb
      cases hb
      exact q _ (er.set r) fun js hj => wipe_set (hj i (by simp [Tg.slots]))
    | _ => cases h
  | many is =>
    cases e with
    | Tuple es kk p =>
      obtain ⟨g, pg, hg⟩ := tgs_S F h
      obtain ⟨n1, n2⟩ := assign_each (env := X.env) h
      refine ⟨_, pg_tup F.calm pg n1 n2, fun d v σ env env' P H H0 Q hp er r hb q => ?_⟩
      cases d with
      | tup ds =>
        have hb : setAll is ds env = some env' := hb
        simp only [R] at r
        obtain ⟨a, xs, rfl, h1, r⟩ := r
        have hl : xs.length = is.length := by rw [← r.len]; exact setAll_len hb
        exact ⟨a, xs, rfl, SqT.of (hp.sub _ _ h1), hl, hg xs σ H Q hl (q _ (er.sets r hb) fun js hj => setV_wipe hj)⟩
      | _ => cases hb
    | _ => cases h
end
end VI
set_option Elab.async false
set_option linter.all false
set_option maxRecDepth 100000
set_option maxHeartbeats 2000000
/-! VO2: comprehensions -/
namespace VI
open PySem PySem.Spec PyProof.Rows L2
section
variable (W : Wd) (RX : RXT) (C : Cf) (E : XK)
/-- the readings, whatever the context -/
def cE (m : Env → (D → Prop) → (XD → Prop) → Prop) : TE := fun σ H Q => ∃ (env : Env) (P : Hp) (post : D → Prop) (ex : XD → Prop), HP W P H ∧ ER W C P H σ env ∧ XH W RX E P H ex ∧ m env post ex ∧ ∀ d v P' H' F, post d → Res W 0 P H d v P' H' F → Q v H'
def cC (m : Env → (Bool → Prop) → (XD → Prop) → Prop) : TT := fun σ H Q => ∃ (env : Env) (P : Hp) (post : Bool → Prop) (ex : XD → Prop), HP W P H ∧ ER W C P H σ env ∧ XH W RX E P H ex ∧ m env post ex ∧ ∀ b P' H', post b → Stp W P H P' H' → Q b H'
def cI (b : Bool) (s : Src) (m : SmL) : TI := fun σ H Q => ∃ (env : Env) (P : Hp) (post : List D → Prop) (ex : XD → Prop), HP W P H ∧ ER W C P H σ env ∧ XH W RX E P H ex ∧ m.l env (fun ds => wSrc s ds post) ex ∧
  ∀ ds J P1 H1 S, post ds → Stp W P H P1 H1 → ItD W J P1 S ds → Ex S H1 → (∀ a, S a ≠ none → ¬ W.ad a) → (b = true → S = emp) → Q J H1
def cG (tg : Tg) : TG := fun v σ H Q => ∃ (d : D) (env env' : Env) (P H0 : Hp), HP W P H ∧ ER W C P H0 σ env ∧ R W.dk P d v ∧ tg.bind d env = some env' ∧
  ∀ σ', ER W C P H0 σ' env' → (∀ js : List Nat, (∀ i ∈ tg.slots, i ∈ js) → wipe σ' js = wipe σ js) → Q σ' H
end
section
variable {W : Wd} {RX : RXT} {T : Tb} {k : Nat} {C : Cf} {X : Cx} {E : XK} {e : Expr} {m : Sm}
theorem SE.can (h : SE W RX C X E e m 0) : PE X e (cE W RX C E m.e) := by
  obtain ⟨t, h1, h2⟩ := h
  exact ⟨fun pins s σ H Q I ⟨env, P, post, ex, a, b, c, d, q⟩ => h1.run pins s σ H Q I (h2 σ env P H post ex Q a b c d q)⟩
theorem SC.can {es : List Expr} {m : Env → (Bool → Prop) → (XD → Prop) → Prop} (h : SC W RX C X E es m) : PTs X es (cC W RX C E m) := by
  obtain ⟨t, h1, h2⟩ := h
  exact ⟨fun pins s σ H Q I ⟨env, P, post, ex, a, b, c, d, q⟩ => h1.run pins s σ H Q I (h2 σ env P H post ex Q a b c d q)⟩
theorem SI.can {b : Bool} {tg iter : Expr} {s : Src} {m : SmL} (h : SI W RX C X E b tg iter s m) : PI X tg iter (cI W RX C E b s m) := by
  obtain ⟨t, h1, h2⟩ := h
  exact ⟨fun pins s σ H Q I ⟨env, P, post, ex, a, b, c, d, q⟩ => h1.run pins s σ H Q I (h2 σ env P H post ex Q a b c d q)⟩
theorem tg_can (F : XF W RX T k C X E) {tg : Tg} {e : Expr} (h : chkTg C tg e = true) : PG X e (cG W C tg) := by
  obtain ⟨g, h1, h2⟩ := tg_S F h
  exact ⟨fun pins s σ H v u Q I r ⟨d, env, env', P, H0, a, b, c, z, q⟩ => h1.run pins s σ H v u Q I r (h2 d v σ env env' P H H0 Q a b c z q)⟩
/-- a walk, turn by turn -/
theorem walk_by {J : It} {n : Nat} {I : Nat → Hp → Prop} {Hs : Hp} {Qend : Hp → Prop} {Step : Nat → V → Hp → (Hp → Prop) → Prop} (go : ∀ i H, i < n → I i H → J.go i H) (stop : ∀ H, I n H → J.stop n H) (h0 : I 0 Hs) (hend : ∀ H, I n H → Qend H)
    (hstep : ∀ i H, i < n → I i H → ∀ x H', J.yld i H x H' → Step i x H' (I (i + 1))) :
    ∃ Wv : Nat → Nat → Hp → Prop, (∃ m, Wv 0 m Hs) ∧ ∀ i m H, Wv i m H → (J.stop i H ∧ Qend H) ∨ (J.go i H ∧ ∃ Nx : Hp → Prop, (∀ H', Nx H' → ∃ m', m' < m ∧ Wv (i + 1) m' H') ∧ ∀ x H', J.yld i H x H' → Step i x H' Nx) := by
  refine ⟨fun i m H => m = n - i ∧ i ≤ n ∧ I i H, ⟨n, by simp, Nat.zero_le _, h0⟩, ?_⟩
  rintro i m H ⟨rfl, hi, p⟩
  by_cases hlt : i < n
  · exact .inr ⟨go i H hlt p, I (i + 1), fun H' p' => ⟨n - (i + 1), by omega, rfl, hlt, p'⟩, hstep i H hlt p⟩
  · have e : i = n := by omega
    subst e
    exact .inl ⟨stop H p, hend H p⟩
theorem Stp.exS {P1 H1 P' H S : Hp} (s : Stp W P1 H1 P' H) (a : Ex S H1) (b : ∀ a, S a ≠ none → ¬ W.ad a) : Ex S H := fun x o h => s.keep x o (a x o h) (b x (by rw [h]; exact fun z => nomatch z))
/-- the new list at a, as it grows -/
def LI (W : Wd) (P1 H1 : Hp) (a : Addr) (G : List D → Prop) (n : Nat) (H : Hp) : Prop := ∃ (P' : Hp) (acc : List D) (vs : List V), Stp W P1 H1 P' H ∧ P' a = none ∧ H a = some (.lst vs) ∧ Rs W.dk P' acc vs ∧ acc.length ≤ n ∧ G acc
theorem nad {P1 H1 : Hp} (hp : HP W P1 H1) {a : Addr} (na : H1 a = none) : ¬ W.ad a := fun z => W.has _ _ hp.ok z na
theorem pnone {P1 H1 : Hp} (hp : HP W P1 H1) {a : Addr} (na : H1 a = none) : P1 a = none := by
  cases e : P1 a with
  | none => rfl
  | some u => rw [hp.sub a u e] at na; cases na
theorem LI.start {P1 H1 : Hp} (hp : HP W P1 H1) {a : Addr} (na : H1 a = none) {G : List D → Prop} (g : G []) : LI W P1 H1 a G 0 (upd H1 a (.lst [])) :=
  ⟨P1, [], [], (Res.lst (ds := []) hp na Rs.nil).st, pnone hp na, upd_same, Rs.nil, Nat.le_refl _, g⟩
theorem Stp.updA {P1 H1 P' H : Hp} (s : Stp W P1 H1 P' H) {a : Addr} (na : H1 a = none) (ad : ¬ W.ad a) (pa : P' a = none) (o : HO) : Stp W P1 H1 P' (upd H a o) := by
  refine ⟨⟨fun b u e => ?_, s.hp.av, W.fr H _ (fun b hb => upd_ne fun z => ad (z ▸ hb)) s.hp.ok⟩, s.up, s.new, fun b u e h => ?_⟩
  · rw [upd_ne (ne_of_none e pa)]; exact s.hp.sub b u e
  · rw [upd_ne (ne_of_none e na)]; exact s.keep b u e h
theorem LI.put0 {P1 H1 : Hp} (hp : HP W P1 H1) {a : Addr} (na : H1 a = none) {P' H P4 H4 : Hp} {acc : List D} {vs : List V} {d : D} {y : V} (s : Stp W P1 H1 P' H) (pa : P' a = none) (ha : H a = some (.lst vs)) (r : Rs W.dk P' acc vs)
    (s4 : Stp W P' H P4 H4) (ry : R W.dk P4 d y) : H4 a = some (.lst vs) ∧ Stp W P1 H1 P4 (L2.upd H4 a (.lst (vs ++ [y]))) ∧ P4 a = none ∧ Rs W.dk P4 (acc ++ [d]) (vs ++ [y]) := by
  have ad := nad hp na
  have h4 := s4.keep a _ ha ad
  have p4 : P4 a = none := by
    cases e : P4 a with
    | none => rfl
    | some u =>
      rcases s4.new a (by rw [e]; exact fun z => nomatch z) with z | z
      · exact absurd pa z
      · rw [ha] at z; cases z
  exact ⟨h4, (s.trans hp.ok s4).updA na ad p4 _, p4, (Rs.mono s4.up _ _ r).app (.cons ry Rs.nil)⟩
theorem LI.put {P1 H1 : Hp} (hp : HP W P1 H1) {a : Addr} (na : H1 a = none) {G' : List D → Prop} {n : Nat} {P' H P4 H4 : Hp} {acc : List D} {vs : List V} {d : D} {y : V} (s : Stp W P1 H1 P' H) (pa : P' a = none) (ha : H a = some (.lst vs)) (r : Rs W.dk P' acc vs) (hl : acc.length ≤ n)
    (s4 : Stp W P' H P4 H4) (ry : R W.dk P4 d y) (g : G' (acc ++ [d])) : H4 a = some (.lst vs) ∧ LI W P1 H1 a G' (n + 1) (L2.upd H4 a (.lst (vs ++ [y]))) := by
  obtain ⟨h4, a1, a2, a3⟩ := LI.put0 hp na s pa ha r s4 ry
  refine ⟨h4, P4, acc ++ [d], vs ++ [y], a1, a2, upd_same, a3, ?_, g⟩
  rw [List.length_append, List.length_singleton]; omega
theorem ER.heap {C : Cf} {P H H' : Hp} {σ : L2.St} {env : Env} (h : ER W C P H σ env) (hk : ∀ a o, H a = some o → ¬ W.ad a → H' a = some o) : ER W C P H' σ env :=
  ⟨h.ln, h.v, fun i d a b => (h.b i d a b).imp fun v z => ⟨z.1, z.2.elim .inl fun ⟨a, o, h1, h2, h3, h4⟩ => .inr ⟨a, o, h1, hk a o h2 h3, h3, h4⟩⟩⟩
theorem ER.up {C : Cf} {P P' H : Hp} {σ : L2.St} {env : Env} (h : ER W C P H σ env) (e : Ex P P') : ER W C P' H σ env :=
  ⟨h.ln, fun i d a b => (h.v i d a b).imp fun v z => ⟨z.1, R.mono e _ _ z.2⟩, fun i d a b => (h.b i d a b).imp fun v z => ⟨z.1, z.2.elim (fun q => .inl (R.mono e _ _ q)) fun ⟨a, o, h1, h2, h3, h4⟩ => .inr ⟨a, o, h1, h2, h3, h4.mono e⟩⟩⟩
theorem wipe_idem (σ : L2.St) (is : List Nat) : wipe (wipe σ is) is = wipe σ is := by
  apply List.ext_getElem?
  intro j
  rw [wipe_get, wipe_get]
  by_cases hj : j ∈ is
  · rw [if_pos hj, if_pos hj]; cases σ[j]? <;> rfl
  · rw [if_neg hj, if_neg hj]
theorem own_map (N : List Str) (is : List Nat) : (ownOf N is).map (·.2) = is := by
  unfold ownOf
  rw [List.map_map]
  exact List.map_id is
theorem size_big {n : Nat} (h : n ≤ 1000000) : n < sizeLine := by rw [sizeLine_eq]; omega
/-- a comprehension: as a value, stored by the swap -/
def Both (W : Wd) (RX : RXT) (C : Cf) (X : Cx) (E : XK) (e : Expr) (m : Sm) (n : Nat) : Prop := ∃ t : TE, PE X e t ∧ (∀ (σ : L2.St) (env : Env) (P H : Hp) (post : D → Prop) (ex : XD → Prop) (Q : VK), HP W P H → ER W C P H σ env → XH W RX E P H ex →
  m.e env post ex → (∀ d v P' H' F, post d → Res W n P H d v P' H' F → Q v H') → t σ H Q) ∧
  ∀ (i : Nat) (y : Str) (py spos : Pos), X.N[i]? = some y → X.env.scope.names.lookup y = some .local → swapsWith e (some (.Name y py)) spos.line X.env = pure true → PS X (.Assign [.Name y py] e spos) (tAsg t (gName i))
theorem lc_both {s : Src} {its cs : CL} {tg : Tg} {y : CE} (hl : SndL W RX T k its) (hc : SndL W RX T k cs) (hy : SndE W RX T k y) {C : Cf} {X : Cx} {E : XK} (F : XF W RX T k C X E) (e : Expr) (m : Md) (h : chkE (.lc s its tg cs y) C m e = true) :
    Both W RX C X E e (wE T (.lc s its tg cs y)) (dep C.fs (.lc s its tg cs y)) ∧ ptb e = true := by
  match e, h with
  | .ListComp elt [⟨tge, iter, ifs, 0⟩] scope pos, h =>
    have h : (match srcE C.sc s iter with
      | some xs => nset iter && s.tg tge && chkL its C (List.replicate s.n false) xs && blkC C.N C.sc scope (ownOf C.N tg.slots) && chkTg (C.blk scope tg.slots) tg tge && le1 cs &&
        chkA cs (C.blk scope tg.slots) true ifs && chkE y (C.blk scope tg.slots) .v elt
      | none => false) = true := h
    cases hs : srcE C.sc s iter with
    | none => rw [hs] at h; cases h
    | some xs =>
      rw [hs] at h
      have h : (nset iter && s.tg tge && chkL its C (List.replicate s.n false) xs && blkC C.N C.sc scope (ownOf C.N tg.slots) && chkTg (C.blk scope tg.slots) tg tge && le1 cs &&
        chkA cs (C.blk scope tg.slots) true ifs && chkE y (C.blk scope tg.slots) .v elt) = true := h
      simp only [Bool.and_eq_true] at h
      obtain ⟨⟨⟨⟨⟨⟨⟨h1, h2⟩, h3⟩, h4⟩, h5⟩, h6⟩, h7⟩, h8⟩ := h
      obtain ⟨wi, pi, hsrc⟩ := src_S F hl hs h2 h3
      have Fb := fun (s : Shared) (H : Hp) (D : Addr) (cl : List (Str × Addr)) (fp : List Addr) => F.blk s H scope D cl fp tg.slots
      have pg := fun s H D cl fp => tg_can (Fb s H D cl fp) h5
      have pt := fun s H D cl fp => ((hc (Fb s H D cl fp)).2.2.2.1 ifs h6 h7).can
      have pe := fun s H D cl fp => ((hy (Fb s H D cl fp) elt).1 h8).val.can
      have ok : BlkOk X.N X.env.scope scope (ownOf C.N tg.slots) := by rw [F.hN, F.sc]; exact blkOk_by h4
      refine ⟨⟨_, pe_lc F.calm (by rw [F.hN]; exact F.nd) pi ok pg pt pe (no_fold h1), fun σ env P0 H0 post ex Q hp er xh z q => ?_, fun i y py spos b1 b2 b3 => ps_setLc F.calm (by rw [F.hN]; exact F.nd) b1 b2 b3 pi ok pg pt pe (no_fold h1)⟩, rfl⟩
      refine hsrc σ env P0 H0 _ ex _ hp er xh z fun ds J P1 H1 S ⟨hlen, hgo⟩ st itd q1 q2 _ Da hDa => ?_
      rw [own_map]
      have er1 := (er.step st).blk scope tg.slots
      refine walk_by (n := ds.length) (I := fun i H => LI W P1 H1 Da (fun acc => goLc (fun d => tg.bind d (wipeE env tg.slots)) (fun env' p => (wL T cs).cs env' p noX) (fun env' p => (wE T y).e env' p noX) (ds.drop i) acc fun ys => post (.lst ys)) i H) ?_ ?_ ?_ ?_ ?_
      · rintro i H hi ⟨P', acc, vs, s3, p3, _⟩
        exact (itd i P' H s3.hp s3.up (s3.exS q1 q2)).1 hi
      · rintro H ⟨P', acc, vs, s3, p3, _⟩
        exact (itd _ P' H s3.hp s3.up (s3.exS q1 q2)).2.1 (Nat.le_refl _)
      · exact LI.start st.hp hDa (by rw [List.drop_zero]; exact hgo)
      · rintro H ⟨P', acc, vs, s3, p3, h9, r9, l9, g9⟩
        rw [List.drop_length] at g9
        have g9 : post (.lst acc) := g9
        refine q _ _ P' H (one Da (.lst vs)) g9 ⟨st.trans hp.ok s3, ⟨Da, _, rfl, rfl, vs, rfl, r9⟩, fun b o z => ?_, fun b z => ?_, fun b z => ?_⟩
        · have hb := one_of (a := Da) (o := .lst vs) (b := b) (by rw [z]; exact fun q => nomatch q)
          subst hb
          rw [one_at] at z
          cases z
          exact h9
        · rw [one_of z]; exact st.back hp.ok hDa
        · rw [one_of z]; exact p3
      · rintro i H hi ⟨P', acc, vs, s3, p3, h9, r9, l9, g9⟩ x H' hy'
        obtain ⟨d, P2, e1, st2, rd⟩ := (itd i P' H s3.hp s3.up (s3.exS q1 q2)).2.2 x H' hi hy'
        have hd : ds.drop i = d :: ds.drop (i + 1) := by
          have e2 : ds[i] = d := by
            rw [List.getElem?_eq_getElem hi] at e1
            exact Option.some.inj e1
          rw [List.drop_eq_getElem_cons hi, e2]
        rw [hd] at g9
        obtain ⟨env2, hb, g9⟩ := g9
        refine ⟨d, _, env2, P2, _, st2.hp, er1.step (s3.trans st.hp.ok st2), rd, hb, fun σ2 er2 hw => ⟨(hw _ fun _ z => z).trans (wipe_idem σ _), env2, P2, _, noX, st2.hp, er2, XH.no, g9, fun b P3 H3 hb3 st3 => ?_⟩⟩
        have st23 := st2.trans s3.hp.ok st3
        cases b with
        | false =>
          have hD3 : H3 Da = some (.lst vs) := st23.keep _ _ h9 (nad st.hp hDa)
          have pD3 : P3 Da = none := by
            cases e : P3 Da with
            | none => rfl
            | some u =>
              rcases st23.new Da (by rw [e]; exact fun z => nomatch z) with z | z
              · exact absurd p3 z
              · rw [h9] at z; cases z
          exact ⟨P3, acc, vs, s3.trans st.hp.ok st23, pD3, hD3, Rs.mono st23.up _ _ r9, Nat.le_succ_of_le l9, hb3⟩
        | true =>
          refine ⟨env2, P3, _, noX, st3.hp, er2.step st3, XH.no, hb3, fun dy vy P4 H4 F4 hd4 r4 => ?_⟩
          have st24 := st23.trans s3.hp.ok r4.st
          obtain ⟨a1, a2⟩ := LI.put (G' := fun acc => goLc (fun d => tg.bind d (wipeE env tg.slots)) (fun env' p => (wL T cs).cs env' p noX) (fun env' p => (wE T y).e env' p noX) (ds.drop (i + 1)) acc fun ys => post (.lst ys)) st.hp hDa s3 p3 h9 r9 l9 st24 r4.r hd4
          refine ⟨vs, a1, ?_, a2⟩
          have := r9.len
          exact size_big (by omega)
theorem e_lc {s : Src} {its cs : CL} {tg : Tg} {y : CE} (hl : SndL W RX T k its) (hc : SndL W RX T k cs) (hy : SndE W RX T k y) : SndE W RX T k (.lc s its tg cs y) := snd_plain (fun {C X E} F e m h => by
  obtain ⟨⟨t, a, b, _⟩, c⟩ := lc_both hl hc hy F e m h
  exact ⟨⟨t, a, b⟩, fun _ => c⟩)

theorem ER.wipe {C : Cf} {P H : Hp} {σ : L2.St} {env : Env} (h : ER W C P H σ env) (is : List Nat) : ER W C P H (L2.wipe σ is) (wipeE env is) := by
  refine ⟨by rw [wipeE_len, wipe_length]; exact h.ln, fun i d hv e => ?_, fun i d hv e => ?_⟩
  · obtain ⟨e1, e2⟩ := wipeE_some e
    obtain ⟨v, a, b⟩ := h.v i d hv e1
    exact ⟨v, by rw [wipe_out e2]; exact a, b⟩
  · obtain ⟨e1, e2⟩ := wipeE_some e
    obtain ⟨v, a, b⟩ := h.b i d hv e1
    exact ⟨v, by rw [wipe_out e2]; exact a, b⟩
theorem LI.mono {P1 H1 H : Hp} {a : Addr} {G : List D → Prop} {n m : Nat} (h : LI W P1 H1 a G n H) (hm : n ≤ m) : LI W P1 H1 a G m H := by
  obtain ⟨P', acc, vs, a1, a2, a3, a4, a5, a6⟩ := h
  exact ⟨P', acc, vs, a1, a2, a3, a4, Nat.le_trans a5 hm, a6⟩
/-- a step that leaves the new list -/
theorem LI.same {P1 H1 : Hp} (hp : HP W P1 H1) {a : Addr} (na : H1 a = none) {G' : List D → Prop} {n : Nat} {P' H P3 H3 : Hp} {acc : List D} {vs : List V} (s : Stp W P1 H1 P' H) (pa : P' a = none) (ha : H a = some (.lst vs)) (r : Rs W.dk P' acc vs) (hl : acc.length ≤ n)
    (s3 : Stp W P' H P3 H3) (g : G' acc) : Stp W P1 H1 P3 H3 ∧ P3 a = none ∧ H3 a = some (.lst vs) ∧ Rs W.dk P3 acc vs ∧ LI W P1 H1 a G' n H3 := by
  have ad := nad hp na
  have h3 := s3.keep a _ ha ad
  have p3 : P3 a = none := by
    cases e : P3 a with
    | none => rfl
    | some u =>
      rcases s3.new a (by rw [e]; exact fun z => nomatch z) with z | z
      · exact absurd pa z
      · rw [ha] at z; cases z
  exact ⟨s.trans hp.ok s3, p3, h3, Rs.mono s3.up _ _ r, P3, acc, vs, s.trans hp.ok s3, p3, h3, Rs.mono s3.up _ _ r, hl, g⟩
theorem drop_at {ds : List D} {i : Nat} {d : D} (hi : i < ds.length) (e1 : ds[i]? = some d) : ds.drop i = d :: ds.drop (i + 1) := by
  have e2 : ds[i] = d := by
    rw [List.getElem?_eq_getElem hi] at e1
    exact Option.some.inj e1
  rw [List.drop_eq_getElem_cons hi, e2]
theorem lc2_both {s s2 : Src} {its its2 cs : CL} {tg tg2 : Tg} {y : CE} (hl : SndL W RX T k its) (hl2 : SndL W RX T k its2) (hc : SndL W RX T k cs) (hy : SndE W RX T k y) {C : Cf} {X : Cx} {E : XK} (F : XF W RX T k C X E) (e : Expr) (m : Md) (h : chkE (.lc2 s its tg s2 its2 tg2 cs y) C m e = true) :
    Both W RX C X E e (wE T (.lc2 s its tg s2 its2 tg2 cs y)) (dep C.fs (.lc2 s its tg s2 its2 tg2 cs y)) ∧ ptb e = true := by
  match e, h with
  | .ListComp elt [⟨tge, iter, [], 0⟩, ⟨tge2, iter2, ifs, 0⟩] scope pos, h =>
    have h : (match srcE C.sc s iter with
      | some xs => (match srcE (relS scope C.sc) s2 iter2 with
        | some xs2 => nset iter && nset iter2 && s.tg tge && s2.tg tge2 && chkL its C (List.replicate s.n false) xs && blkC C.N C.sc scope (ownOf C.N (tg.slots ++ tg2.slots)) &&
          chkTg (C.blk scope (tg.slots ++ tg2.slots)) tg tge && chkL its2 (C.blk scope (tg.slots ++ tg2.slots)) (List.replicate s2.n true) xs2 && chkTg (C.blk scope (tg.slots ++ tg2.slots)) tg2 tge2 && le1 cs &&
          chkA cs (C.blk scope (tg.slots ++ tg2.slots)) true ifs && chkE y (C.blk scope (tg.slots ++ tg2.slots)) .v elt
        | none => false)
      | none => false) = true := h
    cases hs : srcE C.sc s iter with
    | none => rw [hs] at h; cases h
    | some xs =>
      rw [hs] at h
      have h : (match srcE (relS scope C.sc) s2 iter2 with
        | some xs2 => nset iter && nset iter2 && s.tg tge && s2.tg tge2 && chkL its C (List.replicate s.n false) xs && blkC C.N C.sc scope (ownOf C.N (tg.slots ++ tg2.slots)) &&
          chkTg (C.blk scope (tg.slots ++ tg2.slots)) tg tge && chkL its2 (C.blk scope (tg.slots ++ tg2.slots)) (List.replicate s2.n true) xs2 && chkTg (C.blk scope (tg.slots ++ tg2.slots)) tg2 tge2 && le1 cs &&
          chkA cs (C.blk scope (tg.slots ++ tg2.slots)) true ifs && chkE y (C.blk scope (tg.slots ++ tg2.slots)) .v elt
        | none => false) = true := h
      cases hs2 : srcE (relS scope C.sc) s2 iter2 with
      | none => rw [hs2] at h; cases h
      | some xs2 =>
        rw [hs2] at h
        have h : (nset iter && nset iter2 && s.tg tge && s2.tg tge2 && chkL its C (List.replicate s.n false) xs && blkC C.N C.sc scope (ownOf C.N (tg.slots ++ tg2.slots)) &&
          chkTg (C.blk scope (tg.slots ++ tg2.slots)) tg tge && chkL its2 (C.blk scope (tg.slots ++ tg2.slots)) (List.replicate s2.n true) xs2 && chkTg (C.blk scope (tg.slots ++ tg2.slots)) tg2 tge2 && le1 cs &&
          chkA cs (C.blk scope (tg.slots ++ tg2.slots)) true ifs && chkE y (C.blk scope (tg.slots ++ tg2.slots)) .v elt) = true := h
        generalize hjs : tg.slots ++ tg2.slots = js at h
        simp only [Bool.and_eq_true] at h
        obtain ⟨⟨⟨⟨⟨⟨⟨⟨⟨⟨⟨h1, h1'⟩, h2⟩, h2'⟩, h3⟩, h4⟩, h5⟩, h3'⟩, h5'⟩, h6⟩, h7⟩, h8⟩ := h
        obtain ⟨wi, pi, hsrc⟩ := src_S F hl hs h2 h3
        have Fb := fun (s : Shared) (H : Hp) (D : Addr) (cl : List (Str × Addr)) (fp : List Addr) => F.blk s H scope D cl fp js
        have pg := fun s H D cl fp => tg_can (Fb s H D cl fp) h5
        have pg2 := fun s H D cl fp => tg_can (Fb s H D cl fp) h5'
        have pi2 := fun s H D cl fp => (src_S (Fb s H D cl fp) hl2 (tg := tge2) (iter := iter2) hs2 h2' h3').can
        have pt := fun s H D cl fp => ((hc (Fb s H D cl fp)).2.2.2.1 ifs h6 h7).can
        have pe := fun s H D cl fp => ((hy (Fb s H D cl fp) elt).1 h8).val.can
        have ok : BlkOk X.N X.env.scope scope (ownOf C.N js) := by rw [F.hN, F.sc]; exact blkOk_by h4
        have sub1 : ∀ i ∈ tg.slots, i ∈ js := fun i hi => by rw [← hjs]; exact List.mem_append_left _ hi
        have sub2 : ∀ i ∈ tg2.slots, i ∈ js := fun i hi => by rw [← hjs]; exact List.mem_append_right _ hi
        refine ⟨⟨_, pe_lc2 (vs1 := tg2.slots) F.calm (by rw [F.hN]; exact F.nd) pi ok (fun i hi => by rw [own_map]; exact sub2 i hi) pg (fun _ _ _ _ _ => pts_nil) pi2 pg2 pt pe (no_fold h1) (fun _ => no_fold h1'), fun σ env P0 H0 post ex Q hp er xh z q => ?_, fun i y py spos b1 b2 b3 => ps_setLc2 (vs1 := tg2.slots) F.calm (by rw [F.hN]; exact F.nd) b1 b2 b3 pi ok (fun i hi => by rw [own_map]; exact sub2 i hi) pg (fun _ _ _ _ _ => pts_nil) pi2 pg2 pt pe (no_fold h1) (fun _ => no_fold h1')⟩, rfl⟩
        refine hsrc σ env P0 H0 _ ex _ hp er xh z fun ds J P1 H1 S ⟨hlen, hgo⟩ st itd q1 q2 _ Da hDa => ?_
        rw [own_map]
        rw [hjs] at hgo
        have er1 := (er.step st).blk scope js
        generalize hsem : goLc2 (fun d => tg.bind d (wipeE env js)) (fun env' p => (wL T its2).l env' (fun ds2 => wSrc s2 ds2 fun ys => ys.length ≤ 1000 ∧ p ys) noX)
          (fun d env' => tg2.bind d (wipeE env' tg2.slots)) (fun env' p => (wL T cs).cs env' p noX) (fun env' p => (wE T y).e env' p noX) = G2 at hgo
        refine walk_by (n := ds.length) (I := fun i H => LI W P1 H1 Da (fun acc => G2 (ds.drop i) acc fun ys => post (.lst ys)) (i * 1000) H) ?_ ?_ ?_ ?_ ?_
        · rintro i H hi ⟨P', acc, vs, s3, p3, _⟩
          exact (itd i P' H s3.hp s3.up (s3.exS q1 q2)).1 hi
        · rintro H ⟨P', acc, vs, s3, p3, _⟩
          exact (itd _ P' H s3.hp s3.up (s3.exS q1 q2)).2.1 (Nat.le_refl _)
        · exact (LI.start st.hp hDa (by rw [List.drop_zero]; exact hgo)).mono (Nat.zero_le _)
        · rintro H ⟨P', acc, vs, s3, p3, h9, r9, l9, g9⟩
          rw [List.drop_length] at g9
          have g9 : post (.lst acc) := by subst hsem; exact g9
          refine q _ _ P' H (one Da (.lst vs)) g9 ⟨st.trans hp.ok s3, ⟨Da, _, rfl, rfl, vs, rfl, r9⟩, fun b o z => ?_, fun b z => ?_, fun b z => ?_⟩
          · have hb := one_of (a := Da) (o := .lst vs) (b := b) (by rw [z]; exact fun q => nomatch q)
            subst hb
            rw [one_at] at z
            cases z
            exact h9
          · rw [one_of z]; exact st.back hp.ok hDa
          · rw [one_of z]; exact p3
        · rintro i H hi ⟨P', acc, vs, s3, p3, h9, r9, l9, g9⟩ x H' hy'
          obtain ⟨d, P2, e1, st2, rd⟩ := (itd i P' H s3.hp s3.up (s3.exS q1 q2)).2.2 x H' hi hy'
          rw [drop_at hi e1] at g9
          obtain ⟨env2, hb, g9⟩ : ∃ env2, tg.bind d (wipeE env js) = some env2 ∧ (wL T its2).l env2 (fun ds2 => wSrc s2 ds2 fun ys => ys.length ≤ 1000 ∧ goLc (fun e => tg2.bind e (wipeE env2 tg2.slots)) (fun env' p => (wL T cs).cs env' p noX) (fun env' p => (wE T y).e env' p noX) ys acc
              fun acc' => G2 (ds.drop (i + 1)) acc' fun ys => post (.lst ys)) noX := by subst hsem; exact g9
          have s32 := s3.trans st.hp.ok st2
          refine ⟨d, _, env2, P2, H1, st2.hp, er1.up s32.up, rd, hb, fun σ2 er2 hw => ⟨(hw _ sub1).trans (wipe_idem σ _), ?_⟩⟩
          show cI W RX (C.blk scope js) _ true s2 (wL T its2) σ2 H' _
          refine ⟨env2, P2, _, noX, st2.hp, er2.heap s32.keep, XH.no, g9, fun ds2 J1 P3 H3 S2 ⟨hlen2, hgo2⟩ st3 itd2 _ _ t3 => ?_⟩
          obtain rfl : S2 = emp := t3 rfl
          have emp2 : ∀ H : Hp, Ex emp H := fun H _ _ z => nomatch z
          have st23 := st2.trans s3.hp.ok st3
          obtain ⟨u1, u2, u3, u4, _⟩ := LI.same (G' := fun _ => True) st.hp hDa s3 p3 h9 r9 l9 st23 trivial
          have er5 : ∀ {P' H : Hp}, Ex P3 P' → Stp W P1 H1 P' H → ER W (C.blk scope js) P' H (L2.wipe σ2 tg2.slots) (wipeE env2 tg2.slots) := fun e s => ((er2.up (st3.up.trans e)).heap s.keep).wipe _
          refine walk_by (n := ds2.length) (I := fun j H => ∃ (P' : Hp) (acc : List D) (vs : List V), Ex P3 P' ∧ Stp W P1 H1 P' H ∧ P' Da = none ∧ H Da = some (.lst vs) ∧ Rs W.dk P' acc vs ∧ acc.length ≤ i * 1000 + j ∧
            goLc (fun e => tg2.bind e (wipeE env2 tg2.slots)) (fun env' p => (wL T cs).cs env' p noX) (fun env' p => (wE T y).e env' p noX) (ds2.drop j) acc fun acc' => G2 (ds.drop (i + 1)) acc' fun ys => post (.lst ys)) ?_ ?_ ?_ ?_ ?_
          · rintro j H hj ⟨P', acc, vs, e3, s4, _⟩
            exact (itd2 j P' H s4.hp e3 (emp2 H)).1 hj
          · rintro H ⟨P', acc, vs, e3, s4, _⟩
            exact (itd2 _ P' H s4.hp e3 (emp2 H)).2.1 (Nat.le_refl _)
          · exact ⟨P3, acc, vs, Ex.refl _, u1, u2, u3, u4, l9, by rw [List.drop_zero]; exact hgo2⟩
          · rintro H ⟨P', acc, vs, e3, s4, p4, h4', r4, l4, g4⟩
            rw [List.drop_length] at g4
            exact ⟨P', acc, vs, s4, p4, h4', r4, by omega, g4⟩
          · rintro j H hj ⟨P', acc, vs, e3, s4, p4, h4', r4, l4, g4⟩ x2 H2 hy2
            obtain ⟨d2, P5, e5, st5, rd5⟩ := (itd2 j P' H s4.hp e3 (emp2 H)).2.2 x2 H2 hj hy2
            rw [drop_at hj e5] at g4
            obtain ⟨env3, hb3, g4⟩ := g4
            refine ⟨d2, _, env3, P5, _, st5.hp, (er5 e3 s4).step st5, rd5, hb3, fun σ3 er6 hw3 => ⟨(hw3 _ fun _ z => z).trans (wipe_idem σ2 _), env3, P5, _, noX, st5.hp, er6, XH.no, g4, fun b P6 H6 hb6 st6 => ?_⟩⟩
            have st56 := st5.trans s4.hp.ok st6
            cases b with
            | false =>
              obtain ⟨v1, v2, v3, v4, _⟩ := LI.same (G' := fun _ => True) st.hp hDa s4 p4 h4' r4 l4 st56 trivial
              exact ⟨P6, acc, vs, e3.trans st56.up, v1, v2, v3, v4, by omega, hb6⟩
            | true =>
              refine ⟨env3, P6, _, noX, st6.hp, er6.step st6, XH.no, hb6, fun dy vy P7 H7 F7 hd7 r7 => ?_⟩
              have st57 := st56.trans s4.hp.ok r7.st
              obtain ⟨a1, a2, a3, a4⟩ := LI.put0 st.hp hDa s4 p4 h4' r4 st57 r7.r
              have := r4.len
              refine ⟨vs, a1, size_big (by omega), P7, acc ++ [dy], vs ++ [vy], e3.trans st57.up, a2, a3, upd_same, a4, ?_, hd7⟩
              rw [List.length_append, List.length_singleton]; omega
theorem e_lc2 {s s2 : Src} {its its2 cs : CL} {tg tg2 : Tg} {y : CE} (hl : SndL W RX T k its) (hl2 : SndL W RX T k its2) (hc : SndL W RX T k cs) (hy : SndE W RX T k y) : SndE W RX T k (.lc2 s its tg s2 its2 tg2 cs y) := snd_plain (fun {C X E} F e m h => by
  obtain ⟨⟨t, a, b, _⟩, c⟩ := lc2_both hl hl2 hc hy F e m h
  exact ⟨⟨t, a, b⟩, fun _ => c⟩)
end
end VI
set_option Elab.async false
set_option linter.all false
set_option maxRecDepth 100000
set_option maxHeartbeats 2000000
/-! VP0: sorted(xs, key=f), f a def that tells (len(lot), lot) -/
namespace VI
open PySem PySem.Spec PyProof.Rows L2

mutual
theorem reads_nl {h : Heap} : ∀ {v : Value} {d : PyData} {as : List Addr}, Reads h v d as → nl d = true → as = []
  | _, _, _, .none, _ => rfl
  | _, _, _, .bool _, _ => rfl
  | _, _, _, .int _ _, _ => rfl
  | _, _, _, .str _ _, _ => rfl
  | _, _, _, .list _ _ _ _, z => by cases z
  | _, _, _, .tuple _ _ _ r, z => readsAll_nl r z
  | _, _, _, .dict _ _ _ _ _, z => by cases z
theorem readsAll_nl {h : Heap} : ∀ {vs : List Value} {ds : List PyData} {as : List Addr}, ReadsAll h vs ds as → nls ds = true → as = []
  | _, _, _, .nil, _ => rfl
  | _, _, _, .cons r t, z => by
    have z := Bool.and_eq_true_iff.mp (show (nl _ && nls _) = true from z)
    rw [reads_nl r z.1, readsAll_nl t z.2]; rfl
end
theorem name_at {X : Cx} {pins : List (Addr × Obj)} {σ : L2.St} {H : Hp} {s : Shared} {i : Nat} {x : Str} {v : V} (I : Inv X pins σ H s) (hN : X.N[i]? = some x) (e : σ[i]? = some (some v)) (hv : Vis X.env.scope x) (hd : (x == ("__debug__" : Str)) = false) (hcd : (x == ("__classdict__" : Str)) = false) :
    ∃ u, RelV v u ∧ ∀ {Q : Value → Shared → Prop} {E : Value → Shared → Prop} {pos : Pos}, Q u s → wpAny (model X.prog X.w) X.A (eval (.Name x pos) X.env) Q E s := by
  obtain ⟨m, hn, hl⟩ := I.loc
  obtain ⟨u, r, l⟩ := hl i x v hN e hv
  refine ⟨u, r, fun {Q E pos} fin => ?_⟩
  rcases l with ⟨hk, hm⟩ | ⟨hk, c, hc, hcell⟩
  · exact wpAny_Name (wpAny_loadName_local I.ok.kind hk hn hm fin) hd
  · rcases hk with hk | hk
    · exact wpAny_Name (wpAny_loadName_cell I.ok.kind hk hc hcell fin) hd
    · exact wpAny_Name (wpAny_loadName_free I.ok.kind hk hc hcell fin hcd) hd
theorem rank_fn {P : Program} {w : World} {K : PySem.W.Frag} {mg : Str → Option Value} {base : Heap} {nm x qual p : Str} {st : Stmt} {f : Addr} {fd : FuncData} {N : List Str} {p1 p2 p3 p4 p5 p6 : Pos} {kk : Nat} (F : Fun K x qual st f fd) (S : FnScope N [p] (defScope st)) (hm : mg nm = some (.ref f)) (hl : mg "len" = none)
    (hb : defBody st = [.Return (some (.Tuple [.Call (.Name "len" p1) [.Name p p2] [] p3, .Name p p4] kk p5)) p6]) (hv : Vis (defScope st) p) (hgl : (defScope st).names.lookup ("len" : Str) = some NameKind.globalImplicit)
    (hdp : (p == ("__debug__" : Str)) = false) (hcp : (p == ("__classdict__" : Str)) = false) (bt : Binds K fd [p] []) : RankFn P w K mg base nm := by
  refine ⟨f, hm, F.kp, fun B fr s h a its ds hr e0 ht hlen hz hrd => ?_⟩
  obtain ⟨oc, od, kV, doc, pm, an, cdv, ct, osl, rfl, lk, hcd⟩ := F.ex
  have KX : K.In s.heap := e0.mod.kin.keeps fun b o z => (e0.bs b o z).1
  have nlm : s.heap.NoLimit := e0.mod.nolimit.keeps fun b o z => (e0.bs b o z).1
  have bt1 := bt s [.ref a] KX rfl
  rw [List.append_nil] at bt1
  refine wpAny_call (codeAny_call_function hr.depth (KX _ _ lk) rfl S.co S.gen rfl (PySem.W.codeRec_of KX hcd) (bt1 _ _ _ _ ?_))
  refine wpAny_newFunctionEnv_cells S.kind (fun ⟨n, v⟩ hy => ?_) fun en he s1 x1 => ?_
  · have hp := S.par n (List.of_mem_zip hy).1
    rcases hp with z | z
    · exact .inl z
    · exact .inr ⟨z, PySem.W.cellsFrom_some _ _ _ (.inl z)⟩
  subst he
  refine ⟨nlm.keeps x1.toInCall.keep, codeAny_func ?_⟩
  have J0 := inv_start (CX := L2.CX P w) (E := fun _ _ _ => False) (vs := [.ref a]) (N := N) S hr.hd e0 rfl (.cons rfl .nil) x1
  have hN0 : N[0]? = some p := by
    have := S.pre
    cases N with
    | nil => cases this
    | cons y N => simp only [List.length_singleton, List.take_succ_cons, List.take_zero, List.cons.injEq, and_true] at this; rw [this]; rfl
  have hσ : (start N [V.ref a])[0]? = some (some (V.ref a)) := by
    cases N with
    | nil => cases hN0
    | cons y N => rfl
  obtain ⟨hp1, tk1, e1, k1⟩ := x1.done
  subst e1
  show wpAny _ _ (execs (defBody st) _) _ _ _
  rw [hb]
  refine wpAny_execs_cons (wpAny_Return_some (wpAny_Tuple_spliced ?_))
  obtain ⟨u, ru, go1⟩ := name_at J0 hN0 hσ hv hdp hcp
  cases ru
  have ht1 : IsTup hp1 a its.toArray := by
    obtain ⟨o, q1, q2⟩ := ht
    exact ⟨o, x1.toInCall.keep _ _ q1, q2⟩
  have hl63 := line63
  refine Calls.spliced_cons ?_
  refine wpAny_Call_Name_kw (ld_blt J0 hgl hl boot_len ?_)
  refine PyProof.Rows.callWith_builtin1 (e := .Name p p2) (rest := []) (Calls.spliced_cons (go1 (Calls.spliced_nil ?_))) rfl rfl
  refine len_tuple ht1 (by rw [List.size_toArray]; omega) ?_
  have J1 := J0.tok (tk1 + 1 + 1)
  refine Calls.spliced_cons ?_
  obtain ⟨u, ru, go2⟩ := name_at J1 hN0 hσ hv hdp hcp
  cases ru
  refine go2 (Calls.spliced_nil ?_)
  refine ⟨by show 2 ≤ sizeLine; decide, ?_⟩
  refine ⟨_, _, rfl, fun b o q => Heap.get?_push_of_some _ (k1 b o q), ?_⟩
  have rd2 := PyProof.Rows.Reads.keeps (h' := (hp1.push { cls := .type "tuple", data := .seq [Value.int (its.toArray.size : Nat) (tk1 + 1), Value.ref a].toArray })) (fun b o q => Heap.get?_push_of_some _ (x1.toInCall.keep b o q)) hrd
  have := Reads.tuple (h := (hp1.push { cls := .type "tuple", data := .seq [Value.int (its.toArray.size : Nat) (tk1 + 1), Value.ref a].toArray })) (a := hp1.objs.size) (Heap.get?_push_size _ rfl) rfl rfl (ReadsAll.cons (Reads.int _ _) (ReadsAll.cons rd2 ReadsAll.nil))
  rw [List.size_toArray, hlen] at this
  rw [List.size_toArray, hlen]
  exact this
end VI
set_option Elab.async false
set_option linter.all false
set_option maxRecDepth 100000
set_option maxHeartbeats 2000000
/-! VP1: all expressions -/
namespace VI
open PySem PySem.Spec PyProof.Rows L2
section
variable {X : Cx}
theorem call_sortedK (hr : Room 5 X.A) : CallRK X (.builtin "sorted") ["key"] (fun vs ws H Q => ∃ (a fa : Addr) (zs : List (D × V)), vs = [.ref a] ∧ ws = [.ref fa] ∧ SqL X.K H a (zs.map (·.2)) ∧
    (∀ (B : Around) (fr : List PySem.Env) (s : Shared) (h : Hp) (a : Addr) (its : List Value) (ds : List PyData), Room 3 B → Env0 X.prog X.w X.K X.mg X.base B fr s h → IsTup s.heap a its.toArray → its.length = ds.length → its.length ≤ sizeLine → Reads s.heap (.ref a) (.tuple ds) [] →
      wpAny (model X.prog X.w) B (call (.ref fa) [.ref a]) (PySem.W.KeyPure (.tuple [.int (ds.length : Nat), .tuple ds]) s) (fun _ _ => False) s) ∧
    (∀ z ∈ zs, ∃ t ds ys, z.1 = .tup ds ∧ z.2 = .ref t ∧ SqT X.K H t ys ∧ ys.length = ds.length ∧ Dp X.K H z.2 (py z.1) ∧ nl (py z.1) = true ∧ (py z.1).depth ≤ 61) ∧
    PySem.W.AllAlike (zs.map fun z => rankD z.1) ∧ PySem.W.Sortable (zs.map fun z => rankD z.1) ∧
    ∀ p, H p = none → Q (.ref p) (upd H p (.lst ((zs.mergeSort (PySem.W.dataLe false fun z => rankD z.1)).map (·.2))))) := by
  intro pins s σ H xs ws us vs Q I rs rz h
  obtain ⟨a, fa, zs, rfl, rfl, hs, hk, hz, al, so, q⟩ := h
  obtain rfl := Vals.ref1 rs
  obtain rfl := Vals.ref1 rz
  obtain ⟨its, rv, pl, hl⟩ := I.list hs
  have hl2 : zs.length ≤ sizeLine := by simpa using hl
  refine PySem.W.sorted_key_data (b := false) (R := fun v (z : D × V) => RelV z.2 v ∧ z ∈ zs) (k := fun z : D × V => rankD z.1) (bs := zs) (vs := its) pl.isList ?_ al so hl2 (fun z hm => ?_) (PyProof.Rows.ksk_s1 _ _) (fun _ => PyProof.Rows.ksk_l1 _ _) (fun _ => PyProof.Rows.ksk_t1 _ _) (fun v z ⟨hv, _⟩ hm h tk kp => ?_)
    fun out c h' tk kp fr hD hlen ho => ?_
  · have key : ∀ {its : List Value} {l : List (D × V)}, (∀ z ∈ l, z ∈ zs) → Vals (l.map (·.2)) its → PySem.W.EachIs (fun v (z : D × V) => RelV z.2 v ∧ z ∈ zs) its l := by
      intro its l
      induction l generalizing its with
      | nil => intro _ h; cases h; exact .nil
      | cons z l ih =>
        intro hm h
        cases h with
        | cons h t => exact .cons ⟨h, hm z List.mem_cons_self⟩ (ih (fun y hy => hm y (List.mem_cons_of_mem _ hy)) t)
    exact key (fun _ z => z) rv
  · obtain ⟨t, ds, ys, e1, e2, e3, e4, e5, e6, e7⟩ := hz z hm
    have hd : (rankD z.1).depth ≤ 62 := by
      show PyData.depthAll [.int (lenD z.1 : Nat), py z.1] + 1 ≤ 62
      have : PyData.depthAll [.int (lenD z.1 : Nat), py z.1] = max 0 (max (py z.1).depth 0) := rfl
      rw [this]
      simp only [Nat.zero_max, Nat.max_zero]
      omega
    have := hr.un
    omega
  · obtain ⟨t, ds, ys, e1, e2, e3, e4, e5, e6, e7⟩ := hz z hm
    obtain ⟨as, rd⟩ := Dp.reads I _ _ v e5 hv
    have has := reads_nl rd e6
    subst has
    obtain ⟨z1, z2⟩ := z
    simp only at e1 e2
    subst e1 e2
    cases hv
    obtain ⟨its2, rv2, ht2, hz2⟩ := I.tuple e3
    have rd2 : Reads s.heap (.ref t) (.tuple (pys ds)) [] := rd
    have hlen2 : its2.length = (pys ds).length := by rw [pys_map, List.length_map, ← e4]; exact rv2.length.symm
    have I2 : Inv X pins σ H { s with heap := h, toks := tk } := I.kept (t' := tk) kp
    have := hk X.A.in1.in1 X.stack { s with heap := h, toks := tk } H t its2 (pys ds) ((hr.in1).in1) I2.env0.in1.in1 (by obtain ⟨o, q1, q2⟩ := ht2; exact ⟨o, kp _ _ q1, q2⟩) hlen2 (by rw [← rv2.length]; exact hz2) (PyProof.Rows.Reads.keeps kp rd2)
    have e9 : rankD (.tup ds) = .tuple [.int ((pys ds).length : Nat), .tuple (pys ds)] := by
      show PyData.tuple [.int (ds.length : Nat), .tuple (pys ds)] = _
      rw [pys_map, List.length_map]
    show wpAny _ _ _ (PySem.W.KeyPure (rankD (.tup ds)) _) _ _
    rw [e9]
    exact this
  · have back : ∀ {out : List Value} {l : List (D × V)}, PySem.W.EachIs (fun v (z : D × V) => RelV z.2 v ∧ z ∈ zs) out l → Vals (l.map (·.2)) out := by
      intro out l h
      induction h with
      | nil => exact .nil
      | cons h t ih => exact .cons h.1 ih
    have hl3 : ((zs.mergeSort (PySem.W.dataLe false fun z => rankD z.1)).map (·.2)).length ≤ sizeLine := by
      rw [List.length_map, List.length_mergeSort]; exact hl2
    refine ⟨.ref _, upd H (s.heap.objs.size + 1) (.lst ((zs.mergeSort (PySem.W.dataLe false fun z => rankD z.1)).map (·.2))), I.laid (t' := tk) kp (Nat.le_succ _) ⟨hl3, out, c, back ho, ?_⟩, rfl, q _ (I.hok.fresh (Nat.le_succ _))⟩
    exact hD
end
section
variable {W : Wd} {RX : RXT} {T : Tb} {k : Nat}
theorem e_sortK {a : CE} {f : Nat} (ha : SndE W RX T k a) : SndE W RX T k (.sortK a f) := snd_plain (fun {C X E} F e m h => by
  match e, h with
  | .Call (.Name x p) [z] [⟨some kn, .Name y p2, p3⟩] pos, h =>
    have h : (decide (x = "sorted") && decide (kn = "key") && glb C.sc x && nst z && (match C.fs[f]? with
      | some (nm, _, _) => decide (y = nm) && decide (f ∈ C.ky) && glb C.sc y && chkE a C .b z
      | none => false)) = true := h
    cases hf : C.fs[f]? with
    | none => rw [hf] at h; simp at h
    | some q =>
      obtain ⟨nm, md, dp⟩ := q
      rw [hf] at h
      have h : (decide (x = "sorted") && decide (kn = "key") && glb C.sc x && nst z && (decide (y = nm) && decide (f ∈ C.ky) && glb C.sc y && chkE a C .b z)) = true := h
      simp only [Bool.and_eq_true, decide_eq_true_eq] at h
      obtain ⟨⟨⟨⟨rfl, rfl⟩, hg⟩, hn⟩, ⟨⟨⟨rfl, hky⟩, hgy⟩, hc⟩⟩ := h
      obtain ⟨t, pa, ht⟩ := (ha F z).2.1 hc
      obtain ⟨fa, m1, m2, m3⟩ := F.kys f y md dp hf hky
      obtain ⟨gy, dy⟩ := F.gl hgy
      obtain ⟨gx, dx⟩ := F.gl hg
      have hr5 : Room 5 X.A := F.room.mono F.k5
      refine ⟨⟨_, pe_callBK (call_sortedK hr5) gx (F.bl .sorted) (blt_boot .sorted).1 (pa_cons pa pa_nil (star_cons hn)) (pk_cons (pe_glob gy m1 (v := .ref fa) rfl dy) pk_nil) (blt_boot .sorted).2 dx (by rw [star_cons hn]; rfl) (by rw [star_cons hn]; rfl),
        fun σ env P H post ex Q hp er xh z q => ht σ env P H _ ex _ hp er xh z fun d v P' H' hd st r => ?_⟩, fun _ => rfl⟩
      obtain ⟨ds, rfl, fit, hall, al, so, hq⟩ := hd
      obtain ⟨av, xs, rfl, sq, rr, sh⟩ := RB.sqd (X := X) st.hp fit r (ds := ds) rfl
      have hl := rr.len
      have m2' : (ds.zip xs).map (·.2) = xs := List.map_snd_zip (by omega)
      have m1' : (ds.zip xs).map (fun z => rankD z.1) = ds.map rankD := by
        rw [show (fun z : D × V => rankD z.1) = rankD ∘ Prod.fst from rfl, ← List.map_map, List.map_fst_zip (by omega)]
      have lst : H' av = some (.lst xs) := by
        rcases sh with ⟨_, q⟩ | ⟨q, _⟩
        · exact q
        · cases q
      obtain ⟨ms, bd, hms, _⟩ := fit
      have rz := rs_zip (Rs.iff.mp rr)
      refine ⟨av, fa, ds.zip xs, rfl, rfl, by rw [m2']; exact SqL.of lst, m3, fun z hz => ?_, by rw [m1']; exact al, by rw [m1']; exact so, fun p np => ?_⟩
      · have hm : z.1 ∈ ds := (List.of_mem_zip hz).1
        obtain ⟨⟨es, he⟩, hnl⟩ := hall _ hm
        have rzz := rz z hz
        rw [he] at rzz
        simp only [R] at rzz
        obtain ⟨t, ys, ev, hP, ry⟩ := rzz
        cases ms with
        | nil =>
          have bd : ds = [] := by simpa only [Bd] using bd
          subst bd; cases hm
        | cons m0 ms =>
          have bd : ds.length ≤ m0 ∧ ∀ d ∈ ds, Bd ms d := by simpa only [Bd] using bd
          refine ⟨t, es, ys, he, ev, SqT.of (st.hp.sub _ _ hP), ry.len.symm, R.dp st.hp.sub ms _ _ (bd.2 _ hm) (rz z hz), hnl, ?_⟩
          have := ((bd.2 _ hm).fit).dep
          have : ms.length + 1 ≤ 60 := hms
          omega
      · have rs2 := rs_pairs ((ds.zip xs).mergeSort (PySem.W.dataLe false fun z => rankD z.1)) fun z hz => rz z (List.mem_mergeSort.mp hz)
        have es2 : ((ds.zip xs).mergeSort (PySem.W.dataLe false fun z : D × V => rankD z.1)).map (·.1) = ds.mergeSort (PySem.W.dataLe false rankD) := by
          rw [List.map_mergeSort (s := PySem.W.dataLe false rankD)]
          · rw [List.map_fst_zip (by omega)]
          · intro a _ b _; rfl
        rw [es2] at rs2
        exact q _ _ _ _ _ hq ((Res.lst st.hp np rs2).trans hp.ok st))

mutual
theorem sndE (W : Wd) (RX : RXT) (T : Tb) (k : Nat) : ∀ ce : CE, SndE W RX T k ce
  | .var _ => e_var
  | .int _ => e_int
  | .bl _ => e_bl
  | .non => e_non
  | .str _ => e_str
  | .tup es => e_tup (sndL W RX T k es)
  | .lst es => e_lst (sndL W RX T k es)
  | .bin _ a b => e_bin (sndE W RX T k a) (sndE W RX T k b)
  | .binL _ a b => e_binL (sndE W RX T k a) (sndE W RX T k b)
  | .neg a => e_neg (sndE W RX T k a)
  | .cmp _ a b => e_cmp (sndE W RX T k a) (sndE W RX T k b)
  | .and_ es => e_and (sndL W RX T k es)
  | .or_ es => e_or (sndL W RX T k es)
  | .not_ a => e_not (sndE W RX T k a)
  | .ite c a b => e_ite (sndE W RX T k c) (sndE W RX T k a) (sndE W RX T k b)
  | .ix a b => e_ix (sndE W RX T k a) (sndE W RX T k b)
  | .sl _ a lo hi => e_sl (sndE W RX T k a) (sndE W RX T k lo) (sndE W RX T k hi)
  | .gap => e_gap
  | .rev _ a => e_rev (sndE W RX T k a)
  | .call _ es => e_call (sndL W RX T k es)
  | .callK _ es ks => e_callK (sndL W RX T k es) (sndL W RX T k ks)
  | .blt _ es => e_blt (sndL W RX T k es)
  | .rng1 _ a => e_rng1 (sndE W RX T k a)
  | .rng2 _ a b => e_rng2 (sndE W RX T k a) (sndE W RX T k b)
  | .sortK a _ => e_sortK (sndE W RX T k a)
  | .lc _ its _ cs y => e_lc (sndL W RX T k its) (sndL W RX T k cs) (sndE W RX T k y)
  | .lc2 _ its _ _ its2 _ cs y => e_lc2 (sndL W RX T k its) (sndL W RX T k its2) (sndL W RX T k cs) (sndE W RX T k y)
  | .dnT => e_dnT
  | .dnK => e_dnK
theorem sndL (W : Wd) (RX : RXT) (T : Tb) (k : Nat) : ∀ cl : CL, SndL W RX T k cl
  | .nil => l_nil
  | .cons e es => l_cons (sndE W RX T k e) (sndL W RX T k es)
end
end
end VI
set_option Elab.async false
set_option linter.all false
set_option maxRecDepth 100000
set_option maxHeartbeats 2000000
/-! VS1: statements: syntax, what they mean on data, the checker -/
namespace VI
open PySem PySem.Spec PyProof.Rows L2

mutual
inductive CS where
  | frz (is : List Nat)
  | asg (kp : Bool) (i : Nat) (e : CE)
  | unp (is : List Nat) (e : CE)
  | par2 (ki kj : Bool) (i j : Nat) (a b : CE)
  | app (i : Nat) (e : CE)
  | ext (i : Nat) (e : CE)
  | appPop (i j : Nat) (e : CE)
  | ret (e : CE)
  | if_ (c : CE) (a b : CB)
  | for_ (s : Src) (its : CL) (tg : Tg) (b : CB)
  | while_ (c : CE) (b : CB)
  | drop (e : CE)
  | pass | brk | cont
inductive CB where
  | nil | cons (s : CS) (r : CB)
end

/-- what is wanted behind -/
structure En where
  nx : Env → Prop
  rt : D → Prop
  bk : Env → Prop
  ct : Env → Prop
  ex : XD → Prop
/-- the turns of a loop -/
def goF (bind : D → Env → Option Env) (body : Env → En → Prop) : List D → Env → En → Prop
  | [], env, D => D.nx env
  | d :: ds, env, D => ∃ env', bind d env = some env' ∧ body env' { D with nx := fun e => goF bind body ds e D, ct := fun e => goF bind body ds e D, bk := D.nx }
mutual
def wS (T : Tb) : CS → Env → En → Prop
  | .frz _, env, D => D.nx env
  | .asg _ i e, env, D => (wE T e).e env (fun d => D.nx (env.set i (some d))) D.ex
  | .unp is e, env, D => (wE T e).e env (fun d => ∃ env', (Tg.many is).bind d env = some env' ∧ D.nx env') D.ex
  | .par2 _ _ i j a b, env, D => (wE T a).e env (fun x => (wE T b).e env (fun y => D.nx ((env.set i (some x)).set j (some y))) D.ex) D.ex
  | .app i e, env, D => ∃ ds, env[i]? = some (some (.lst ds)) ∧ ds.length < sizeLine ∧ (wE T e).e env (fun d => D.nx (env.set i (some (.lst (ds ++ [d]))))) D.ex
  | .ext i e, env, D => ∃ ds, env[i]? = some (some (.lst ds)) ∧ (wE T e).e env (fun d => ∃ es, d = .lst es ∧ ds.length + es.length ≤ sizeLine ∧ D.nx (env.set i (some (.lst (ds ++ es))))) D.ex
  | .appPop i j e, env, D => ∃ ds es, env[i]? = some (some (.lst ds)) ∧ env[j]? = some (some (.lst es)) ∧ ds.length < sizeLine ∧ es.length ≤ sizeLine ∧ (wE T e).e env (fun d => ∃ k y, d = .int k ∧ 0 ≤ k ∧ es[k.toNat]? = some y ∧
      D.nx ((env.set j (some (.lst (es.eraseIdx k.toNat)))).set i (some (.lst (ds ++ [y]))))) D.ex
  | .ret e, env, D => (wE T e).e env D.rt D.ex
  | .if_ c a b, env, D => (wE T c).t env (fun t => if t = true then wB T a env D else wB T b env D) D.ex
  | .for_ s its tg b, env, D => (wL T its).l env (fun ds => wSrc s ds fun xs => goF (fun d env => tg.bind d env) (wB T b) xs env D) D.ex
  | .while_ c b, env, D => ∃ I : Nat → Env → Prop, (∃ m, I m env) ∧ ∀ m e, I m e → (wE T c).t e (fun t => if t = true then wB T b e { D with nx := fun e' => ∃ m', m' < m ∧ I m' e', ct := fun e' => ∃ m', m' < m ∧ I m' e', bk := D.nx } else D.nx e) D.ex
  | .drop e, env, D => (wE T e).e env (fun _ => D.nx env) D.ex
  | .pass, env, D => D.nx env
  | .brk, env, D => D.bk env
  | .cont, env, D => D.ct env
def wB (T : Tb) : CB → Env → En → Prop
  | .nil, env, D => D.nx env
  | .cons s r, env, D => wS T s env { D with nx := fun e => wB T r e D }
end

/-! ### who owns what -/
def own (O : List Bool) (i : Nat) : Bool := O.getD i false
def frzL : List Nat → List Bool → List Bool
  | [], O => O
  | i :: is, O => frzL is (O.set i false)
mutual
def falls : CS → Bool
  | .ret _ | .brk | .cont => false
  | .if_ _ a b => fallsB a || fallsB b
  | _ => true
def fallsB : CB → Bool
  | .nil => true
  | .cons s r => falls s && fallsB r
end
mutual
def outS : CS → List Bool → List Bool
  | .frz is, O => frzL is O
  | .asg kp i _, O => O.set i kp
  | .par2 ki kj i j _ _, O => (O.set i ki).set j kj
  | .if_ _ a b, O => if fallsB a = true then outB a O else outB b O
  | _, O => O
def outB : CB → List Bool → List Bool
  | .nil, O => O
  | .cons s r, O => outB r (outS s O)
end
def Cf.at (C : Cf) (B O : List Bool) : Cf := { C with sv := fun i => !own O i && !own B i, sb := fun _ => true }
def noComp : Expr → Bool
  | .ListComp _ _ _ _ => false
  | .SetComp _ _ _ _ => false
  | .DictComp _ _ _ _ _ => false
  | _ => true
/-- a comprehension that is stored by the swap: name, its place, the line -/
def swaps (C : Cf) (y : Str) (py : Pos) : Expr → Bool
  | .ListComp _ _ scope pos => decide (C.sc.names.lookup y = some .local) && (py.line == pos.line) && !(scope.names.any fun (n, k) => n == y && (k == .local || k == .cell))
  | _ => false
/-- .. or not at all -/
def swapsNot (C : Cf) (y : Str) : Expr → Bool
  | .ListComp _ _ _ _ => decide (C.sc.names.lookup y = some .cell)
  | e => noComp e
def isFun (C : Cf) : Bool := match C.sc.kind with
  | .function => true
  | _ => false
def loc (C : Cf) (x : Str) : Bool := decide (C.sc.names.lookup x = some .local)
def clear (B O : List Bool) (is : List Nat) : Bool := is.all fun i => !own O i && !own B i
def plain2 : Expr → Bool
  | .Starred _ _ => false
  | _ => true
/-! ### views -/
def oany {α : Type} (o : Option α) (p : α → Bool) : Bool := match o with
  | some a => p a
  | none => false
theorem oany_eq {α : Type} {o : Option α} {p : α → Bool} (h : oany o p = true) : ∃ a, o = some a ∧ p a = true := by
  cases o with
  | none => cases h
  | some a => exact ⟨a, rfl, h⟩
def nameV : Expr → Option (Str × Pos)
  | .Name x p => some (x, p)
  | _ => none
theorem nameV_eq {e : Expr} {r : Str × Pos} (h : nameV e = some r) : e = .Name r.1 r.2 := by
  cases e <;> cases h <;> rfl
def tupV : Expr → Option (List Expr × Nat × Pos)
  | .Tuple es k p => some (es, k, p)
  | _ => none
theorem tupV_eq {e : Expr} {r : List Expr × Nat × Pos} (h : tupV e = some r) : e = .Tuple r.1 r.2.1 r.2.2 := by
  cases e <;> cases h <;> rfl
def callV : Expr → Option (Expr × List Expr × List Keyword × Pos)
  | .Call f xs kws p => some (f, xs, kws, p)
  | _ => none
theorem callV_eq {e : Expr} {r : Expr × List Expr × List Keyword × Pos} (h : callV e = some r) : e = .Call r.1 r.2.1 r.2.2.1 r.2.2.2 := by
  cases e <;> cases h <;> rfl
def attrV : Expr → Option (Expr × Str × Pos)
  | .Attribute o m p => some (o, m, p)
  | _ => none
theorem attrV_eq {e : Expr} {r : Expr × Str × Pos} (h : attrV e = some r) : e = .Attribute r.1 r.2.1 r.2.2 := by
  cases e <;> cases h <;> rfl
def one? {α : Type} : List α → Option α
  | [a] => some a
  | _ => none
theorem one?_eq {α : Type} {l : List α} {a : α} (h : one? l = some a) : l = [a] := by
  match l, h with
  | [b], h => cases h; rfl
def two? {α : Type} : List α → Option (α × α)
  | [a, b] => some (a, b)
  | _ => none
theorem two?_eq {α : Type} {l : List α} {a : α × α} (h : two? l = some a) : l = [a.1, a.2] := by
  match l, h with
  | [b, c], h => cases h; rfl
/-- name.m(e): the name, m, its place, e, the call's place -/
structure MV where
  x : Str
  np : Pos
  m : Str
  apos : Pos
  v : Expr
  cpos : Pos
def methV (e : Expr) : Option MV := (callV e).bind fun r => (attrV r.1).bind fun q => (nameV q.1).bind fun n => (one? r.2.1).bind fun v => if r.2.2.1.isEmpty = true then some ⟨n.1, n.2, q.2.1, q.2.2, v, r.2.2.2⟩ else none
theorem methV_eq {e : Expr} {r : MV} (h : methV e = some r) : e = .Call (.Attribute (.Name r.x r.np) r.m r.apos) [r.v] [] r.cpos := by
  unfold methV at h
  cases h1 : callV e with
  | none => rw [h1] at h; cases h
  | some r1 =>
    rw [h1, Option.bind_some] at h
    cases h2 : attrV r1.1 with
    | none => rw [h2] at h; cases h
    | some q =>
      rw [h2, Option.bind_some] at h
      cases h3 : nameV q.1 with
      | none => rw [h3] at h; cases h
      | some n =>
        rw [h3, Option.bind_some] at h
        cases h4 : one? r1.2.1 with
        | none => rw [h4] at h; cases h
        | some v =>
          rw [h4, Option.bind_some] at h
          split at h
          · rename_i hk
            cases h
            obtain ⟨f, xs, kws, p⟩ := r1
            have e1 := callV_eq h1
            have e2 := attrV_eq h2
            have e3 := nameV_eq h3
            have e4 := one?_eq h4
            have e5 : kws = [] := by simpa using hk
            simp only at e1 e2 e4
            rw [e1, e2, e3, e4, e5]
          · cases h
def asgV : Stmt → Option (Expr × Expr × Pos)
  | .Assign [t] v p => some (t, v, p)
  | _ => none
theorem asgV_eq {s : Stmt} {r : Expr × Expr × Pos} (h : asgV s = some r) : s = .Assign [r.1] r.2.1 r.2.2 := by
  cases s with
  | Assign ts v p =>
    match ts, h with
    | [t], h => cases h; rfl
  | _ => cases h
def exprV : Stmt → Option (Expr × Pos)
  | .Expr v p => some (v, p)
  | _ => none
theorem exprV_eq {s : Stmt} {r : Expr × Pos} (h : exprV s = some r) : s = .Expr r.1 r.2 := by
  cases s <;> cases h <;> rfl
def retV : Stmt → Option (Expr × Pos)
  | .Return (some v) p => some (v, p)
  | _ => none
theorem retV_eq {s : Stmt} {r : Expr × Pos} (h : retV s = some r) : s = .Return (some r.1) r.2 := by
  cases s with
  | Return o p =>
    cases o with
    | none => cases h
    | some v => cases h; rfl
  | _ => cases h
def ifV : Stmt → Option (Expr × List Stmt × List Stmt × Pos)
  | .If c a b p => some (c, a, b, p)
  | _ => none
theorem ifV_eq {s : Stmt} {r : Expr × List Stmt × List Stmt × Pos} (h : ifV s = some r) : s = .If r.1 r.2.1 r.2.2.1 r.2.2.2 := by
  cases s <;> cases h <;> rfl
def forV : Stmt → Option (Expr × Expr × List Stmt × Pos)
  | .For t i b [] p => some (t, i, b, p)
  | _ => none
theorem forV_eq {s : Stmt} {r : Expr × Expr × List Stmt × Pos} (h : forV s = some r) : s = .For r.1 r.2.1 r.2.2.1 [] r.2.2.2 := by
  cases s with
  | For t i b o p =>
    cases o with
    | nil => cases h; rfl
    | cons _ _ => cases h
  | _ => cases h
def whileV : Stmt → Option (Expr × List Stmt × Pos)
  | .While c b [] p => some (c, b, p)
  | _ => none
theorem whileV_eq {s : Stmt} {r : Expr × List Stmt × Pos} (h : whileV s = some r) : s = .While r.1 r.2.1 [] r.2.2 := by
  cases s with
  | While c b o p =>
    cases o with
    | nil => cases h; rfl
    | cons _ _ => cases h
  | _ => cases h
def isPass : Stmt → Option Pos
  | .Pass p => some p
  | _ => none
theorem isPass_eq {s : Stmt} {p : Pos} (h : isPass s = some p) : s = .Pass p := by cases s <;> cases h <;> rfl
def isBrk : Stmt → Option Pos
  | .Break p => some p
  | _ => none
theorem isBrk_eq {s : Stmt} {p : Pos} (h : isBrk s = some p) : s = .Break p := by cases s <;> cases h <;> rfl
def isCont : Stmt → Option Pos
  | .Continue p => some p
  | _ => none
theorem isCont_eq {s : Stmt} {p : Pos} (h : isCont s = some p) : s = .Continue p := by cases s <;> cases h <;> rfl
def isNilB : CB → Bool
  | .nil => true
  | _ => false
def notTup (e : Expr) : Bool := (tupV e).isNone

mutual
def chkS : CS → Cf → List Bool → List Bool → List Bool → Stmt → Bool
  | .frz _, _, _, _, _, _ => false
  | .asg kp i e, C, B, O, _, st => oany (asgV st) fun r => oany (nameV r.1) fun n => setb C i n.1 && !own B i && decide (i < O.length) && isFun C && (swapsNot C n.1 r.2.1 || swaps C n.1 n.2 r.2.1) && (if kp = true then decide (dep C.fs e = 1) else true) && chkE e (C.at B O) .v r.2.1
  | .unp is e, C, B, O, _, st => oany (asgV st) fun r => oany (tupV r.1) fun n => noComp r.2.1 && notTup r.2.1 && clear B O is && chkTs C is n.1 && chkE e (C.at B O) .v r.2.1
  | .par2 ki kj i j a b, C, B, O, _, st => oany (asgV st) fun r => oany (tupV r.1) fun n => oany (two? n.1) fun t => oany (nameV t.1) fun x => oany (nameV t.2) fun y => oany (tupV r.2.1) fun m => oany (two? m.1) fun w =>
      decide (C.N[i]? = some x.1) && decide (C.N[j]? = some y.1) && decide (i ≠ j) && loc C x.1 && loc C y.1 && clear B O [i, j] && decide (i < O.length) && decide (j < O.length) && (if ki = true then decide (dep C.fs a = 1) else true) && (if kj = true then decide (dep C.fs b = 1) else true) && isFun C && (y.2.line == x.2.line) && !(x.1 == y.1) && nst w.1 && nst w.2 &&
      !([w.1, w.2].all (foldedForSure 8)) && !([w.1, w.2].all (constantsAlone 8)) && chkE a (C.at B O) .v w.1 && chkE b (C.at B O) .v w.2
  | .app i e, C, B, O, _, st => oany (exprV st) fun r => oany (methV r.1) fun q => decide (q.m = "append") && decide (C.N[i]? = some q.x) && visb C.sc q.x && own O i && nst q.v && (q.apos.endLine == q.cpos.line) && chkE e (C.at B O) .v q.v
  | .ext i e, C, B, O, _, st => oany (exprV st) fun r => oany (methV r.1) fun q => decide (q.m = "extend") && decide (C.N[i]? = some q.x) && visb C.sc q.x && own O i && nst q.v && (q.apos.endLine == q.cpos.line) && chkE e (C.at B O) .b q.v
  | .appPop i j e, C, B, O, _, st => oany (exprV st) fun r => oany (methV r.1) fun q => oany (methV q.v) fun p => decide (q.m = "append") && decide (p.m = "pop") && decide (C.N[i]? = some q.x) && decide (C.N[j]? = some p.x) && visb C.sc q.x && visb C.sc p.x && own O i && own O j && decide (i ≠ j) && nst p.v &&
      (q.apos.endLine == q.cpos.line) && (p.apos.endLine == p.cpos.line) && chkE e (C.at B O) .v p.v
  | .ret e, C, B, O, _, st => oany (retV st) fun r => chkE e (C.at B O) .v r.1
  | .if_ c a b, C, B, O, lo, st => oany (ifV st) fun r => chkE c (C.at B O) .t r.1 && chkB a C B O lo r.2.1 && chkB b C B O lo r.2.2.1 && (if fallsB a = true then if fallsB b = true then decide (outB a O = outB b O) else true else true)
  | .for_ s its tg b, C, B, O, _, st => oany (forV st) fun r => oany (srcE C.sc s r.2.1) fun xs => nset r.2.1 && s.tg r.1 && chkL its (C.at B O) (List.replicate s.n true) xs && clear B O tg.slots && chkTg C tg r.1 && chkB b C B O O r.2.2.1 && (if fallsB b = true then decide (outB b O = O) else true)
  | .while_ c b, C, B, O, _, st => oany (whileV st) fun r => chkE c (C.at B O) .t r.1 && chkB b C B O O r.2.1 && (if fallsB b = true then decide (outB b O = O) else true)
  | .drop e, C, B, O, _, st => oany (exprV st) fun r => noComp r.1 && chkE e (C.at B O) .b r.1
  | .pass, _, _, _, _, st => (isPass st).isSome
  | .brk, _, _, O, lo, st => (isBrk st).isSome && decide (O = lo)
  | .cont, _, _, O, lo, st => (isCont st).isSome && decide (O = lo)
def chkB : CB → Cf → List Bool → List Bool → List Bool → List Stmt → Bool
  | .nil, _, _, _, _, ss => ss.isEmpty
  | .cons s r, C, B, O, lo, ss => (match s with
    | .frz is => clear B [] is && chkB r C B (frzL is O) lo ss
    | s => (match ss with
      | st :: rest => chkS s C B O lo st && (falls s || isNilB r) && chkB r C B (outS s O) lo rest
      | [] => false))
end
end VI
set_option Elab.async false
set_option linter.all false
set_option maxRecDepth 100000
set_option maxHeartbeats 2000000
/-! VS2: the state between statements -/
namespace VI
open PySem PySem.Spec PyProof.Rows L2

structure SR (W : Wd) (B O : List Bool) (P0 H0 P H : Hp) (σ : L2.St) (env : Env) : Prop where
  ok : W.ok H0
  st : Stp W P0 H0 P H
  ln : env.length = σ.length
  sh : ∀ (i : Nat) d, own O i = false → own B i = false → env[i]? = some (some d) → ∃ v, σ[i]? = some (some v) ∧ R W.dk P d v
  bo : ∀ (i : Nat) d, own O i = false → own B i = true → env[i]? = some (some d) → ∃ v, σ[i]? = some (some v) ∧ RB W P H0 d v
  ow : ∀ (i : Nat) d, own O i = true → env[i]? = some (some d) → ∃ a o, σ[i]? = some (some (.ref a)) ∧ H a = some o ∧ H0 a = none ∧ P a = none ∧ RC W.dk P d o
  dj : ∀ (i j : Nat) d e a, own O i = true → own O j = true → env[i]? = some (some d) → env[j]? = some (some e) → σ[i]? = some (some (.ref a)) → σ[j]? = some (some (.ref a)) → i = j
section
variable {W : Wd} {B O : List Bool} {P0 H0 P H P' H' : Hp} {σ : L2.St} {env : Env}
theorem SR.nad0 (h : SR W B O P0 H0 P H σ env) {a : Addr} (n : H0 a = none) : ¬ W.ad a := fun z => W.has _ _ h.ok z n
theorem SR.er {C : Cf} (h : SR W B O P0 H0 P H σ env) : ER W (C.at B O) P H σ env := by
  refine ⟨h.ln, fun i d hv e => ?_, fun i d _ e => ?_⟩
  · have hv : (!own O i && !own B i) = true := hv
    simp only [Bool.and_eq_true, Bool.not_eq_true'] at hv
    exact h.sh i d hv.1 hv.2 e
  · cases ho : own O i with
    | true =>
      obtain ⟨a, o, h1, h2, h3, h4, h5⟩ := h.ow i d ho e
      exact ⟨_, h1, .inr ⟨a, o, rfl, h2, h.nad0 h3, h5⟩⟩
    | false =>
      cases hb : own B i with
      | true =>
        obtain ⟨v, h1, h2⟩ := h.bo i d ho hb e
        exact ⟨v, h1, h2.elim .inl fun ⟨a, o, q1, q2, q3, q4⟩ => .inr ⟨a, o, q1, h.st.keep a o q2 q3, q3, q4⟩⟩
      | false =>
        obtain ⟨v, h1, h2⟩ := h.sh i d ho hb e
        exact ⟨v, h1, .inl h2⟩
theorem SR.step (h : SR W B O P0 H0 P H σ env) (s : Stp W P H P' H') : SR W B O P0 H0 P' H' σ env where
  ok := h.ok
  st := h.st.trans h.ok s
  ln := h.ln
  sh := fun i d a b e => (h.sh i d a b e).imp fun v z => ⟨z.1, R.mono s.up _ _ z.2⟩
  bo := fun i d a b e => (h.bo i d a b e).imp fun v z => ⟨z.1, z.2.elim (fun q => .inl (R.mono s.up _ _ q)) fun ⟨a, o, q1, q2, q3, q4⟩ => .inr ⟨a, o, q1, q2, q3, q4.mono s.up⟩⟩
  ow := fun i d a e => by
    obtain ⟨a, o, h1, h2, h3, h4, h5⟩ := h.ow i d a e
    refine ⟨a, o, h1, s.keep a o h2 (h.nad0 h3), h3, ?_, h5.mono s.up⟩
    cases q : P' a with
    | none => rfl
    | some u =>
      rcases s.new a (by rw [q]; exact fun z => nomatch z) with z | z
      · exact absurd h4 z
      · rw [h2] at z; cases z
  dj := h.dj
theorem own_set {i j : Nat} {b : Bool} : own (O.set i b) j = if i = j then (if i < O.length then b else false) else own O j := by
  unfold own
  rw [List.getD_eq_getElem?_getD, List.getElem?_set]
  by_cases e : i = j
  · subst e
    rw [if_pos rfl, if_pos rfl]
    by_cases hl : i < O.length
    · rw [if_pos hl, if_pos hl]; rfl
    · rw [if_neg hl, if_neg hl]; rfl
  · rw [if_neg e, if_neg e, List.getD_eq_getElem?_getD]
theorem set_at {α : Type} {l : List (Option α)} {i j : Nat} {x : Option α} {y : α} (h : (l.set i x)[j]? = some (some y)) : (i = j ∧ x = some y ∧ i < l.length) ∨ (i ≠ j ∧ l[j]? = some (some y)) := by
  rw [List.getElem?_set] at h
  split at h
  · rename_i e
    split at h
    · rename_i hl
      exact .inl ⟨e, by cases h; rfl, hl⟩
    · cases h
  · rename_i e
    exact .inr ⟨e, h⟩
/-- a shared value is stored -/
theorem SR.put (h : SR W B O P0 H0 P H σ env) {i : Nat} {d : D} {v : V} (hb : own B i = false) (r : R W.dk P d v) : SR W B (O.set i false) P0 H0 P H (σ.set i (some v)) (env.set i (some d)) where
  ok := h.ok
  st := h.st
  ln := by rw [List.length_set, List.length_set]; exact h.ln
  sh := fun j e ho hB he => by
    rcases set_at he with ⟨rfl, e1, hl⟩ | ⟨ne, e1⟩
    · cases e1
      exact ⟨v, List.getElem?_set_self (by rw [← h.ln]; exact hl), r⟩
    · rw [own_set, if_neg ne] at ho
      rw [List.getElem?_set_ne ne]
      exact h.sh j e ho hB e1
  bo := fun j e ho hB he => by
    rcases set_at he with ⟨rfl, e1, hl⟩ | ⟨ne, e1⟩
    · rw [hb] at hB; cases hB
    · rw [own_set, if_neg ne] at ho
      rw [List.getElem?_set_ne ne]
      exact h.bo j e ho hB e1
  ow := fun j e ho he => by
    rcases set_at he with ⟨rfl, e1, hl⟩ | ⟨ne, e1⟩
    · rw [own_set, if_pos rfl] at ho
      split at ho <;> cases ho
    · rw [own_set, if_neg ne] at ho
      rw [List.getElem?_set_ne ne]
      exact h.ow j e ho e1
  dj := fun j k d e a hj hk ej ek sj sk => by
    have aux : ∀ {j : Nat} {e : D}, own (O.set i false) j = true → (env.set i (some d))[j]? = some (some e) → i ≠ j := fun {j e} ho he z => by
      subst z
      rw [own_set, if_pos rfl] at ho
      split at ho <;> cases ho
    have nj : i ≠ j := fun z => by
      subst z; rw [own_set, if_pos rfl] at hj; split at hj <;> cases hj
    have nk : i ≠ k := fun z => by
      subst z; rw [own_set, if_pos rfl] at hk; split at hk <;> cases hk
    rw [own_set, if_neg nj] at hj
    rw [own_set, if_neg nk] at hk
    rw [List.getElem?_set_ne nj] at ej sj
    rw [List.getElem?_set_ne nk] at ek sk
    exact h.dj j k _ _ a hj hk ej ek sj sk
/-- an owned object is stored -/
theorem SR.putO (h : SR W B O P0 H0 P H σ env) {i : Nat} {d : D} {v : V} {F : Hp} (hb : own B i = false) (hlt : i < O.length) (r : Res W 1 P H d v P' H' F) : SR W B (O.set i true) P0 H0 P' H' (σ.set i (some v)) (env.set i (some d)) := by
  have h1 := h.step r.st
  obtain ⟨a, o, rfl, rfl, rc⟩ := r.ro
  have ha : one a o a ≠ none := by rw [one_at]; exact fun z => nomatch z
  have na := r.fn a ha
  have hne : ∀ {j : Nat} {e : D} {b : Addr}, own O j = true → env[j]? = some (some e) → σ[j]? = some (some (.ref b)) → b ≠ a := fun {j e b} ho he hs z => by
    obtain ⟨a', o', q1, q2, _⟩ := h.ow j e ho he
    rw [hs] at q1
    cases q1
    rw [z, na] at q2
    cases q2
  refine ⟨h.ok, h1.st, by rw [List.length_set, List.length_set]; exact h.ln, fun j e ho hB he => ?_, fun j e ho hB he => ?_, fun j e ho he => ?_, fun j k d' e b hj hk ej ek sj sk => ?_⟩
  · rcases set_at he with ⟨rfl, e1, hl⟩ | ⟨ne, e1⟩
    · rw [own_set, if_pos rfl] at ho
      rw [if_pos hlt] at ho; cases ho
    · rw [own_set, if_neg ne] at ho
      rw [List.getElem?_set_ne ne]
      exact h1.sh j e ho hB e1
  · rcases set_at he with ⟨rfl, e1, hl⟩ | ⟨ne, e1⟩
    · rw [hb] at hB; cases hB
    · rw [own_set, if_neg ne] at ho
      rw [List.getElem?_set_ne ne]
      exact h1.bo j e ho hB e1
  · rcases set_at he with ⟨rfl, e1, hl⟩ | ⟨ne, e1⟩
    · cases e1
      exact ⟨a, o, List.getElem?_set_self (by rw [← h.ln]; exact hl), r.fs a o one_at, h.st.back h.ok na, r.fp a ha, rc⟩
    · rw [own_set, if_neg ne] at ho
      rw [List.getElem?_set_ne ne]
      exact h1.ow j e ho e1
  · rcases set_at ej with ⟨rfl, e1, hl⟩ | ⟨nj, e1⟩
    · rcases set_at ek with ⟨rfl, e2, hl2⟩ | ⟨nk, e2⟩
      · rfl
      · rw [List.getElem?_set_self (by rw [← h.ln]; exact hl)] at sj
        cases sj
        rw [own_set, if_neg nk] at hk
        rw [List.getElem?_set_ne nk] at sk
        exact absurd rfl (hne hk e2 sk)
    · rcases set_at ek with ⟨rfl, e2, hl2⟩ | ⟨nk, e2⟩
      · rw [List.getElem?_set_self (by rw [← h.ln]; exact hl2)] at sk
        cases sk
        rw [own_set, if_neg nj] at hj
        rw [List.getElem?_set_ne nj] at sj
        exact absurd rfl (hne hj e1 sj)
      · rw [own_set, if_neg nj] at hj
        rw [own_set, if_neg nk] at hk
        rw [List.getElem?_set_ne nj] at sj
        rw [List.getElem?_set_ne nk] at sk
        exact h.dj j k _ _ b hj hk e1 e2 sj sk

/-- an owned object that is there is stored -/
theorem SR.putN (h : SR W B O P0 H0 P H σ env) {i : Nat} {d : D} {a : Addr} {o : HO} (hb : own B i = false) (hlt : i < O.length) (ha : H a = some o) (h0 : H0 a = none) (pa : P a = none) (rc : RC W.dk P d o)
    (hne : ∀ (j : Nat) (e : D) (b : Addr), own O j = true → env[j]? = some (some e) → σ[j]? = some (some (.ref b)) → b ≠ a) : SR W B (O.set i true) P0 H0 P H (σ.set i (some (.ref a))) (env.set i (some d)) := by
  refine ⟨h.ok, h.st, by rw [List.length_set, List.length_set]; exact h.ln, fun j e ho hB he => ?_, fun j e ho hB he => ?_, fun j e ho he => ?_, fun j k d' e b hj hk ej ek sj sk => ?_⟩
  · rcases set_at he with ⟨rfl, e1, hl⟩ | ⟨ne, e1⟩
    · rw [own_set, if_pos rfl, if_pos hlt] at ho; cases ho
    · rw [own_set, if_neg ne] at ho
      rw [List.getElem?_set_ne ne]
      exact h.sh j e ho hB e1
  · rcases set_at he with ⟨rfl, e1, hl⟩ | ⟨ne, e1⟩
    · rw [hb] at hB; cases hB
    · rw [own_set, if_neg ne] at ho
      rw [List.getElem?_set_ne ne]
      exact h.bo j e ho hB e1
  · rcases set_at he with ⟨rfl, e1, hl⟩ | ⟨ne, e1⟩
    · cases e1
      exact ⟨a, o, List.getElem?_set_self (by rw [← h.ln]; exact hl), ha, h0, pa, rc⟩
    · rw [own_set, if_neg ne] at ho
      rw [List.getElem?_set_ne ne]
      exact h.ow j e ho e1
  · rcases set_at ej with ⟨rfl, e1, hl⟩ | ⟨nj, e1⟩
    · rcases set_at ek with ⟨rfl, e2, hl2⟩ | ⟨nk, e2⟩
      · rfl
      · rw [List.getElem?_set_self (by rw [← h.ln]; exact hl)] at sj
        cases sj
        rw [own_set, if_neg nk] at hk
        rw [List.getElem?_set_ne nk] at sk
        exact absurd rfl (hne k _ _ hk e2 sk)
    · rcases set_at ek with ⟨rfl, e2, hl2⟩ | ⟨nk, e2⟩
      · rw [List.getElem?_set_self (by rw [← h.ln]; exact hl2)] at sk
        cases sk
        rw [own_set, if_neg nj] at hj
        rw [List.getElem?_set_ne nj] at sj
        exact absurd rfl (hne j _ _ hj e1 sj)
      · rw [own_set, if_neg nj] at hj
        rw [own_set, if_neg nk] at hk
        rw [List.getElem?_set_ne nj] at sj
        rw [List.getElem?_set_ne nk] at sk
        exact h.dj j k _ _ b hj hk e1 e2 sj sk
/-- an object stays owned over a step -/
theorem Res.later {n : Nat} {P1 H1 P2 H2 F : Hp} {d : D} {v : V} (ok : W.ok H) (r : Res W n P H d v P1 H1 F) (s : Stp W P1 H1 P2 H2) : Res W n P H d v P2 H2 F := by
  refine ⟨r.st.trans ok s, r.ro.mono s.up, fun a o h => s.keep a o (r.fs a o h) fun z => W.has _ _ ok z (r.fn a (by rw [h]; exact fun q => nomatch q)), r.fn, fun a h => ?_⟩
  cases e : P2 a with
  | none => rfl
  | some u =>
    rcases s.new a (by rw [e]; exact fun q => nomatch q) with z | z
    · exact absurd (r.fp a h) z
    · cases q : F a with
      | none => exact absurd q h
      | some o => rw [r.fs a o q] at z; cases z
/-- an owned object is written -/
theorem SR.mut (h : SR W B O P0 H0 P H σ env) {i : Nat} {d d' : D} {a : Addr} {o' : HO} (ho : own O i = true) (he : env[i]? = some (some d)) (hs : σ[i]? = some (some (.ref a))) (rc : RC W.dk P d' o') :
    SR W B O P0 H0 P (upd H a o') σ (env.set i (some d')) := by
  obtain ⟨a', o, q1, q2, q3, q4, q5⟩ := h.ow i d ho he
  rw [hs] at q1
  cases q1
  have hi : i < env.length := (List.getElem?_eq_some_iff.mp he).1
  refine ⟨h.ok, h.st.updA q3 (h.nad0 q3) q4 _, by rw [List.length_set]; exact h.ln, fun j e ho' hB he' => ?_, fun j e ho' hB he' => ?_, fun j e ho' he' => ?_, fun j k d2 e b hj hk ej ek sj sk => ?_⟩
  · rcases set_at he' with ⟨rfl, e1, hl⟩ | ⟨ne, e1⟩
    · rw [ho] at ho'; cases ho'
    · exact h.sh j e ho' hB e1
  · rcases set_at he' with ⟨rfl, e1, hl⟩ | ⟨ne, e1⟩
    · rw [ho] at ho'; cases ho'
    · exact h.bo j e ho' hB e1
  · rcases set_at he' with ⟨rfl, e1, hl⟩ | ⟨ne, e1⟩
    · cases e1
      exact ⟨a, o', hs, upd_same, q3, q4, rc⟩
    · obtain ⟨b, ob, p1, p2, p3, p4, p5⟩ := h.ow j e ho' e1
      refine ⟨b, ob, p1, ?_, p3, p4, p5⟩
      rw [upd_ne fun z => ?_]
      · exact p2
      · subst z
        exact ne (h.dj i j _ _ b ho ho' he e1 hs p1)
  · have e1 : ∃ d3, env[j]? = some (some d3) := by
      rcases set_at ej with ⟨rfl, _, _⟩ | ⟨_, e1⟩
      · exact ⟨d, he⟩
      · exact ⟨_, e1⟩
    have e2 : ∃ d3, env[k]? = some (some d3) := by
      rcases set_at ek with ⟨rfl, _, _⟩ | ⟨_, e1⟩
      · exact ⟨d, he⟩
      · exact ⟨_, e1⟩
    obtain ⟨_, e1⟩ := e1
    obtain ⟨_, e2⟩ := e2
    exact h.dj j k _ _ b hj hk e1 e2 sj sk
/-- ownership is given up -/
theorem SR.frz1 (h : SR W B O P0 H0 P H σ env) {i : Nat} (hb : own B i = false) : ∃ P', Ex P P' ∧ SR W B (O.set i false) P0 H0 P' H σ env := by
  cases ho : own O i with
  | false =>
    refine ⟨P, Ex.refl P, h.ok, h.st, h.ln, fun j e ho' hB he => ?_, fun j e ho' hB he => ?_, fun j e ho' he => ?_, fun j k d e b hj hk => ?_⟩
    · refine h.sh j e ?_ hB he
      rw [own_set] at ho'
      split at ho'
      · rename_i z; rw [← z]; exact ho
      · exact ho'
    · refine h.bo j e ?_ hB he
      rw [own_set] at ho'
      split at ho'
      · rename_i z; rw [← z]; exact ho
      · exact ho'
    · refine h.ow j e ?_ he
      rw [own_set] at ho'
      split at ho'
      · split at ho' <;> cases ho'
      · exact ho'
    · refine h.dj j k d e b ?_ ?_
      · rw [own_set] at hj
        split at hj
        · split at hj <;> cases hj
        · exact hj
      · rw [own_set] at hk
        split at hk
        · split at hk <;> cases hk
        · exact hk
  | true =>
    have hne : ∀ j, own (O.set i false) j = true → i ≠ j ∧ own O j = true := fun j hj => by
      rw [own_set] at hj
      split at hj
      · split at hj <;> cases hj
      · rename_i z; exact ⟨z, hj⟩
    have hlt : i < O.length := by
      unfold own at ho
      rw [List.getD_eq_getElem?_getD] at ho
      by_cases hl : i < O.length
      · exact hl
      · rw [List.getElem?_eq_none (by omega)] at ho; cases ho
    have hfa : ∀ j, own (O.set i false) j = false → i = j ∨ own O j = false := fun j hj => by
      rw [own_set] at hj
      split at hj
      · rename_i z; exact .inl z
      · exact .inr hj
    by_cases hex : ∃ d, env[i]? = some (some d)
    · obtain ⟨d, he⟩ := hex
      obtain ⟨a, o, q1, q2, q3, q4, q5⟩ := h.ow i d ho he
      have up : Ex P (cup P (one a o)) := cup_l
      have at_ : cup P (one a o) a = some o := cup_r q4 one_at
      refine ⟨cup P (one a o), up, h.ok, ⟨h.st.hp.cup (fun b u z => ?_) (fun b z => ?_), h.st.up.trans up, fun b z => ?_, h.st.keep⟩, h.ln, fun j e ho' hB he' => ?_, fun j e ho' hB he' => ?_, fun j e ho' he' => ?_, fun j k d e b hj hk => ?_⟩
      · have hb := one_of (a := a) (o := o) (b := b) (by rw [z]; exact fun q => nomatch q)
        subst hb; rw [one_at] at z; cases z; exact q2
      · rw [one_of z]; exact h.nad0 q3
      · rcases cup_some z with z | z
        · exact h.st.new b z
        · rw [one_of z]; exact .inr q3
      · rcases hfa j ho' with rfl | ho2
        · rw [he] at he'
          cases he'
          exact ⟨_, q1, q5.r up at_⟩
        · obtain ⟨v, p1, p2⟩ := h.sh j e ho2 hB he'
          exact ⟨v, p1, R.mono up _ _ p2⟩
      · rcases hfa j ho' with rfl | ho2
        · rw [hb] at hB; cases hB
        · obtain ⟨v, p1, p2⟩ := h.bo j e ho2 hB he'
          exact ⟨v, p1, p2.elim (fun q => .inl (R.mono up _ _ q)) fun ⟨a, o, q1, q2, q3, q4⟩ => .inr ⟨a, o, q1, q2, q3, q4.mono up⟩⟩
      · obtain ⟨ne, ho2⟩ := hne j ho'
        obtain ⟨b, ob, p1, p2, p3, p4, p5⟩ := h.ow j e ho2 he'
        refine ⟨b, ob, p1, p2, p3, ?_, p5.mono up⟩
        cases q : cup P (one a o) b with
        | none => rfl
        | some u =>
          rcases cup_of q with z | ⟨_, z⟩
          · rw [p4] at z; cases z
          · have hb := one_of (a := a) (o := o) (b := b) (by rw [z]; exact fun q => nomatch q)
            subst hb
            exact absurd (h.dj i j _ _ b ho ho2 he he' q1 p1) ne
      · exact h.dj j k d e b (hne j hj).2 (hne k hk).2
    · refine ⟨P, Ex.refl P, h.ok, h.st, h.ln, fun j e ho' hB he => ?_, fun j e ho' hB he => ?_, fun j e ho' he => h.ow j e (hne j ho').2 he, fun j k d e b hj hk => h.dj j k d e b (hne j hj).2 (hne k hk).2⟩
      · rcases hfa j ho' with rfl | ho2
        · exact absurd ⟨_, he⟩ hex
        · exact h.sh j e ho2 hB he
      · rcases hfa j ho' with rfl | ho2
        · exact absurd ⟨_, he⟩ hex
        · exact h.bo j e ho2 hB he
theorem SR.frz : ∀ {is : List Nat} {O : List Bool} {P : Hp}, SR W B O P0 H0 P H σ env → (∀ i ∈ is, own B i = false) → ∃ P', Ex P P' ∧ SR W B (frzL is O) P0 H0 P' H σ env
  | [], O, P, h, _ => ⟨P, Ex.refl P, h⟩
  | i :: is, O, P, h, hb => by
    obtain ⟨P1, e1, h1⟩ := h.frz1 (hb i List.mem_cons_self)
    obtain ⟨P2, e2, h2⟩ := SR.frz h1 fun j hj => hb j (List.mem_cons_of_mem _ hj)
    exact ⟨P2, e1.trans e2, h2⟩
theorem own_same {i : Nat} (h : own O i = false) : O.set i false = O := by
  apply List.ext_getElem?
  intro j
  rw [List.getElem?_set]
  split
  · rename_i e
    subst e
    split
    · rename_i hl
      unfold own at h
      rw [List.getD_eq_getElem?_getD, List.getElem?_eq_getElem hl] at h
      rw [List.getElem?_eq_getElem hl]
      exact congrArg some h.symm
    · rename_i hl
      rw [List.getElem?_eq_none (by omega)]
  · rfl
theorem SR.sets : ∀ {is : List Nat} {ds : List D} {vs : List V} {σ : L2.St} {env env' : Env}, SR W B O P0 H0 P H σ env → clear B O is = true → Rs W.dk P ds vs → setAll is ds env = some env' → SR W B O P0 H0 P H (setV is vs σ) env'
  | [], [], vs, σ, env, env', h, _, r, e => by
    simp only [Rs] at r
    subst r
    have e : some env = some env' := e
    cases e
    exact h
  | i :: is, d :: ds, vs, σ, env, env', h, c, r, e => by
    simp only [Rs] at r
    obtain ⟨v, r', rfl, r1, r2⟩ := r
    have c : (!own O i && !own B i) = true ∧ clear B O is = true := Bool.and_eq_true_iff.mp (show ((!own O i && !own B i) && clear B O is) = true from c)
    have c1 : own O i = false ∧ own B i = false := by simpa using c.1
    have h1 := h.put c1.2 r1
    rw [own_same c1.1] at h1
    show SR W B O P0 H0 P H (setV is r' (σ.set i (some v))) env'
    exact SR.sets h1 c.2 r2 e
  | [], _ :: _, _, _, _, _, _, _, _, e => by cases e
  | _ :: _, [], _, _, _, _, _, _, _, e => by cases e
end
section
variable {W : Wd} {RX : RXT} {T : Tb} {k : Nat} {C : Cf} {X : Cx} {E : XK}
theorem XF.at (F : XF W RX T k C X E) (B O : List Bool) : XF W RX T k (C.at B O) X E :=
  ⟨F.hN, F.sc, F.fb, F.nd, F.gd, F.room, F.k5, F.calm, F.ps, F.bl, F.rg, F.fns, F.kws, F.kys⟩
/-- a target, its slots set -/
theorem tg_R (F : XF W RX T k C X E) {tg : Tg} {e : Expr} (h : chkTg C tg e = true) : ∃ g : TG, PG X e g ∧ ∀ (d : D) (v : V) (σ : L2.St) (env env' : Env) (P H : Hp) (Q : L2.St → Hp → Prop), HP W P H → R W.dk P d v →
    tg.bind d env = some env' → (∀ ds vs, Rs W.dk P ds vs → setAll tg.slots ds env = some env' → Q (setV tg.slots vs σ) H) → g v σ H Q := by
  cases tg with
  | one i =>
    cases e with
    | Name x p =>
      obtain ⟨a, b, c⟩ := F.set h
      refine ⟨_, pg_name (by rw [F.hN]; exact F.nd) a b c, fun d v σ env env' P H Q hp r hb q => ?_⟩
      exact q [d] [v] (.cons r Rs.nil) hb
    | _ => cases h
  | many is =>
    cases e with
    | Tuple es kk p =>
      obtain ⟨g, pg, hg⟩ := tgs_S F h
      obtain ⟨n1, n2⟩ := assign_each (env := X.env) h
      refine ⟨_, pg_tup F.calm pg n1 n2, fun d v σ env env' P H Q hp r hb q => ?_⟩
      cases d with
      | tup ds =>
        have hb : setAll is ds env = some env' := hb
        simp only [R] at r
        obtain ⟨a, xs, rfl, h1, r⟩ := r
        have hl : xs.length = is.length := by rw [← r.len]; exact setAll_len hb
        exact ⟨a, xs, rfl, SqT.of (hp.sub _ _ h1), hl, hg xs σ H Q hl (q ds xs r hb)⟩
      | _ => cases hb
    | _ => cases h
end
end VI
set_option Elab.async false
set_option linter.all false
set_option maxRecDepth 100000
set_option maxHeartbeats 2000000
/-! VS3: statements, one by one -/
namespace VI
open PySem PySem.Spec PyProof.Rows L2

def EOk (W : Wd) (B O' lo : List Bool) (fl : Bool) (P0 H0 : Hp) (De : En) (Dh : Ends) : Prop :=
  (fl = true → ∀ env σ P H, De.nx env → SR W B O' P0 H0 P H σ env → Dh.nx σ H) ∧ (∀ d v P' H' F, De.rt d → Res W 0 P0 H0 d v P' H' F → Dh.rt v H') ∧
  (∀ env σ P H, De.bk env → SR W B lo P0 H0 P H σ env → Dh.bk σ H) ∧ (∀ env σ P H, De.ct env → SR W B lo P0 H0 P H σ env → Dh.ct σ H)
def SS (W : Wd) (RX : RXT) (B : List Bool) (E : XK) (O O' lo : List Bool) (fl : Bool) (t : TS) (m : Env → En → Prop) : Prop := ∀ (P0 H0 P H : Hp) (σ : L2.St) (env : Env) (De : En) (Dh : Ends), XH W RX E P0 H0 De.ex → SR W B O P0 H0 P H σ env → m env De → EOk W B O' lo fl P0 H0 De Dh → t Dh σ H
section
variable (W : Wd) (RX : RXT) (T : Tb) (k : Nat)
def SndS (cs : CS) : Prop := ∀ {C : Cf} {X : Cx} {E : XK}, XF W RX T k C X E → PassesOwn (model X.prog X.w) X.A X.env X.xe → ∀ (B O lo : List Bool) (st : Stmt), chkS cs C B O lo st = true → ∃ t : TS, PS X st t ∧ SS W RX B E O (outS cs O) lo (falls cs) t (wS T cs)
def SndB (cb : CB) : Prop := ∀ {C : Cf} {X : Cx} {E : XK}, XF W RX T k C X E → PassesOwn (model X.prog X.w) X.A X.env X.xe → ∀ (B O lo : List Bool) (ss : List Stmt), chkB cb C B O lo ss = true → ∃ t : TS, PSs X ss t ∧ SS W RX B E O (outB cb O) lo (fallsB cb) t (wB T cb)
end
theorem no_swap {e : Expr} {t : Option Expr} {l : Nat} {env : PySem.Env} (h : noComp e = true) : swapsWith e t l env = pure false := by
  unfold swapsWith
  cases e <;> first | (with_reducible rfl) | (cases h; done) | rfl
section
variable {W : Wd} {RX : RXT} {T : Tb} {k : Nat}
theorem isFun_of {C : Cf} (h : isFun C = true) : C.sc.kind = .function := by
  unfold isFun at h
  split at h
  · assumption
  · cases h
theorem both_of {ce : CE} {C : Cf} {X : Cx} {E : XK} (F : XF W RX T k C X E) {elt : Expr} {gs : List Comprehension} {scope : Scope} {pos : Pos} {m : Md} (h : chkE ce C m (.ListComp elt gs scope pos) = true) :
    Both W RX C X E (.ListComp elt gs scope pos) (wE T ce) (dep C.fs ce) := by
  cases ce with
  | lc s its tg cs y => exact (lc_both (sndL W RX T k its) (sndL W RX T k cs) (sndE W RX T k y) F _ m h).1
  | lc2 s its tg s2 its2 tg2 cs y => exact (lc2_both (sndL W RX T k its) (sndL W RX T k its2) (sndL W RX T k cs) (sndE W RX T k y) F _ m h).1
  | _ => cases h
/-- x = e -/
theorem s_asg {kp : Bool} {i : Nat} {e : CE} : SndS W RX T k (.asg kp i e) := by
  intro C X E F po B O lo st hO
  obtain ⟨⟨tg, v, pos⟩, e1, hA⟩ := oany_eq hO
  obtain ⟨⟨y, py⟩, e2, h⟩ := oany_eq hA
  have e1 := asgV_eq e1
  have e2 := nameV_eq e2
  simp only at e1 e2
  subst e2 e1
  · simp only [Bool.and_eq_true, decide_eq_true_eq, Bool.not_eq_true', Bool.or_eq_true] at h
    obtain ⟨⟨⟨⟨⟨⟨h1, h2⟩, h3⟩, h4⟩, h5⟩, h6⟩, h7⟩ := h
    obtain ⟨a1, a2, a3⟩ := F.set h1
    have nd : X.N.Nodup := by rw [F.hN]; exact F.nd
    have key : ∀ t : TE, PS X (.Assign [.Name y py] v pos) (tAsg t (gName i)) → (∀ (σ : L2.St) (env : Env) (P H : Hp) (post : D → Prop) (ex : XD → Prop) (Q : VK), HP W P H → ER W (C.at B O) P H σ env → XH W RX E P H ex →
        (wE T e).e env post ex → (∀ d v P' H' F, post d → Res W (dep C.fs e) P H d v P' H' F → Q v H') → t σ H Q) → ∃ t : TS, PS X (.Assign [.Name y py] v pos) t ∧ SS W RX B E O (O.set i kp) lo true t (wS T (.asg kp i e)) := by
      intro t ps hs
      refine ⟨_, ps, fun P0 H0 P H σ env De Dh xh sr hm ok => ?_⟩
      refine hs σ env P H _ De.ex _ sr.st.hp sr.er (xh.step sr.ok sr.st) hm fun d v P' H' F' hd r => ?_
      cases kp with
      | false => exact ok.1 rfl _ _ _ _ hd ((sr.step (r.frz sr.st.hp.ok).st).put h2 (r.frz sr.st.hp.ok).r)
      | true =>
        have hdp : dep C.fs e = 1 := by simpa using h6
        rw [hdp] at r
        exact ok.1 rfl _ _ _ _ hd (sr.putO h2 h3 r)
    have plain : swapsWith v (some (.Name y py)) pos.line X.env = pure false → ∃ t : TS, PS X (.Assign [.Name y py] v pos) t ∧ SS W RX B E O (O.set i kp) lo true t (wS T (.asg kp i e)) := by
      intro hsw
      obtain ⟨t, pe, ht⟩ := (sndE W RX T k e (F.at B O) v).1 h7
      exact key t (ps_set nd a1 a2 pe hsw a3) ht
    rcases h5 with h5 | h5
    · cases hv : noComp v with
      | true => exact plain (no_swap hv)
      | false =>
        cases v with
        | ListComp elt gs scope vpos =>
          refine plain ?_
          have hc : C.sc.names.lookup y = some .cell := by
            have : decide (C.sc.names.lookup y = some .cell) = true := h5
            simpa using this
          have ky : X.env.kindOf y = some .cell := by show X.env.scope.names.lookup y = _; rw [F.sc]; exact hc
          have hb : X.env.blockKind = .function := by unfold PySem.Env.blockKind; rw [F.sc, isFun_of h4]; rfl
          unfold swapsWith
          simp only [hb, ky]
          rfl
        | _ => first | (cases hv; done) | (cases h5; done)
    · cases v with
      | ListComp elt gs scope vpos =>
        have h5 : (decide (C.sc.names.lookup y = some .local) && (py.line == vpos.line) && !(scope.names.any fun (n, k) => n == y && (k == .local || k == .cell))) = true := h5
        simp only [Bool.and_eq_true, decide_eq_true_eq, Bool.not_eq_true'] at h5
        obtain ⟨⟨s1, s2⟩, s3⟩ := h5
        have hy : X.env.scope.names.lookup y = some .local := by rw [F.sc]; exact s1
        obtain ⟨t, pe, ht, hst⟩ := both_of (F.at B O) h7
        exact key t (hst i y py pos a1 hy (sw_true (by rw [F.sc]; exact isFun_of h4) hy s2 s3)) ht
      | _ => cases h5; done
theorem s_unp {is : List Nat} {e : CE} : SndS W RX T k (.unp is e) := by
  intro C X E F po B O lo st hO
  obtain ⟨⟨tg, v, pos⟩, e1, hA⟩ := oany_eq hO
  obtain ⟨⟨ts, kk, tp⟩, e2, h⟩ := oany_eq hA
  have e1 := asgV_eq e1
  have e2 := tupV_eq e2
  simp only at e1 e2
  subst e2 e1
  · simp only [Bool.and_eq_true] at h
    obtain ⟨⟨⟨⟨h1, h2⟩, h3⟩, h4⟩, h5⟩ := h
    obtain ⟨t, pe, ht⟩ := ((sndE W RX T k e (F.at B O) v).1 h5).val
    obtain ⟨g, pg, hg⟩ := tg_R F (tg := .many is) (e := .Tuple ts kk tp) h4
    refine ⟨_, ps_asg pe pg (by rw [swapsWithSole]; exact no_swap h1) ?_, fun P0 H0 P H σ env De Dh xh sr hm ok => ?_⟩
    · cases v <;> first | (cases h2; done) | rfl
    · refine ht σ env P H _ De.ex _ sr.st.hp sr.er (xh.step sr.ok sr.st) hm fun d v P' H' F' hd r => ?_
      obtain ⟨env', hb, hn⟩ := hd
      exact hg d v σ env env' P' H' _ r.st.hp r.r hb fun ds vs rs hs => ok.1 rfl _ _ _ _ hn ((sr.step r.st).sets h3 rs hs)
theorem s_app {i : Nat} {e : CE} : SndS W RX T k (.app i e) := by
  intro C X E F po B O lo st hO
  obtain ⟨⟨ce, pos⟩, e1, hA⟩ := oany_eq hO
  obtain ⟨⟨x, np, m, apos, v, cpos⟩, e2, h⟩ := oany_eq hA
  have e1 := exprV_eq e1
  have e2 := methV_eq e2
  simp only at e1 e2
  subst e2 e1
  · simp only [Bool.and_eq_true, decide_eq_true_eq] at h
    obtain ⟨⟨⟨⟨⟨⟨rfl, h1⟩, h2⟩, h3⟩, h4⟩, h5⟩, h6⟩ := h
    obtain ⟨v1, v2, v3⟩ := F.vis h2
    obtain ⟨t, pe, ht⟩ := ((sndE W RX T k e (F.at B O) v).1 h6).val
    refine ⟨_, ps_expr (pe_bm PySem.F.plainAttrs_list PySem.F.slot_list_append PySem.F.type_list_append mt_append (pe_var (by rw [F.hN]; exact h1) v1 v2 v3) (pa_cons pe pa_nil (star_cons h4)) rfl (by rw [star_cons h4]; rfl) h5 (star_cons h4) rfl), fun P0 H0 P H σ env De Dh xh sr hm ok => ?_⟩
    obtain ⟨ds, he, hz, hm⟩ := hm
    obtain ⟨a, o, q1, q2, q3, q4, q5⟩ := sr.ow i _ h3 he
    obtain ⟨xs, rfl, rx⟩ := q5
    refine ⟨.ref a, q1, .inl ⟨rfl, xs, SqL.of q2⟩, ?_⟩
    refine ht σ env P H _ De.ex _ sr.st.hp sr.er (xh.step sr.ok sr.st) hm fun d v P' H' F' hd r => ?_
    have sr1 := sr.step r.st
    have h5' := r.st.keep a _ q2 (sr.nad0 q3)
    refine ⟨a, xs, v, rfl, rfl, h5', by rw [← rx.len]; exact hz, ?_⟩
    exact ok.1 rfl _ _ _ _ hd (sr1.mut h3 he q1 ⟨_, rfl, (Rs.mono r.st.up _ _ rx).app (.cons r.r Rs.nil)⟩)
theorem s_ext {i : Nat} {e : CE} : SndS W RX T k (.ext i e) := by
  intro C X E F po B O lo st hO
  obtain ⟨⟨ce, pos⟩, e1, hA⟩ := oany_eq hO
  obtain ⟨⟨x, np, m, apos, v, cpos⟩, e2, h⟩ := oany_eq hA
  have e1 := exprV_eq e1
  have e2 := methV_eq e2
  simp only at e1 e2
  subst e2 e1
  · simp only [Bool.and_eq_true, decide_eq_true_eq] at h
    obtain ⟨⟨⟨⟨⟨⟨rfl, h1⟩, h2⟩, h3⟩, h4⟩, h5⟩, h6⟩ := h
    obtain ⟨v1, v2, v3⟩ := F.vis h2
    obtain ⟨t, pe, ht⟩ := (sndE W RX T k e (F.at B O) v).2.1 h6
    refine ⟨_, ps_expr (pe_bm PySem.F.plainAttrs_list PySem.F.slot_list_extend PySem.F.type_list_extend mt_extend (pe_var (by rw [F.hN]; exact h1) v1 v2 v3) (pa_cons pe pa_nil (star_cons h4)) rfl (by rw [star_cons h4]; rfl) h5 (star_cons h4) rfl), fun P0 H0 P H σ env De Dh xh sr hm ok => ?_⟩
    obtain ⟨ds, he, hm⟩ := hm
    obtain ⟨a, o, q1, q2, q3, q4, q5⟩ := sr.ow i _ h3 he
    obtain ⟨xs, rfl, rx⟩ := q5
    refine ⟨.ref a, q1, .inl ⟨rfl, xs, SqL.of q2⟩, ?_⟩
    refine ht σ env P H _ De.ex _ sr.st.hp sr.er (xh.step sr.ok sr.st) hm fun d v P' H' hd st r => ?_
    obtain ⟨es, rfl, hl, hn⟩ := hd
    have sr1 := sr.step st
    have h5' := st.keep a _ q2 (sr.nad0 q3)
    obtain ⟨b, zs, rfl, hb, rz⟩ := r.lst st.hp
    refine ⟨a, b, xs, zs, rfl, rfl, h5', hb, by rw [← rx.len, ← rz.len]; exact hl, ?_⟩
    exact ok.1 rfl _ _ _ _ hn (sr1.mut h3 he q1 ⟨_, rfl, (Rs.mono st.up _ _ rx).app rz⟩)
theorem s_appPop {i j : Nat} {e : CE} : SndS W RX T k (.appPop i j e) := by
  intro C X E F po B O lo st hO
  obtain ⟨⟨ce, pos⟩, e1, hA⟩ := oany_eq hO
  obtain ⟨⟨x, np, m, apos, w, cpos⟩, e2, hB⟩ := oany_eq hA
  obtain ⟨⟨y, yp, m2, apos2, v, cpos2⟩, e3, h⟩ := oany_eq hB
  have e1 := exprV_eq e1
  have e2 := methV_eq e2
  have e3 := methV_eq e3
  simp only at e1 e2 e3
  subst e3 e2 e1
  · simp only [Bool.and_eq_true, decide_eq_true_eq] at h
    obtain ⟨⟨⟨⟨⟨⟨⟨⟨⟨⟨⟨⟨rfl, rfl⟩, h1⟩, h1'⟩, h2⟩, h2'⟩, h3⟩, h3'⟩, hij⟩, h4⟩, h5⟩, h5'⟩, h6⟩ := h
    obtain ⟨v1, v2, v3⟩ := F.vis h2
    obtain ⟨w1, w2, w3⟩ := F.vis h2'
    obtain ⟨t, pe, ht⟩ := ((sndE W RX T k e (F.at B O) v).1 h6).val
    have pop := pe_bm PySem.F.plainAttrs_list PySem.F.slot_list_pop PySem.F.type_list_pop mt_popAt (pe_var (pos := yp) (by rw [F.hN]; exact h1') w1 w2 w3) (pa_cons pe pa_nil (star_cons h4)) rfl (cpos := cpos2) (apos := apos2) (by rw [star_cons h4]; rfl) h5' (star_cons h4) rfl
    refine ⟨_, ps_expr (pe_bm PySem.F.plainAttrs_list PySem.F.slot_list_append PySem.F.type_list_append mt_append (pe_var (by rw [F.hN]; exact h1) v1 v2 v3) (pa_cons pop pa_nil rfl) rfl rfl h5 rfl rfl), fun P0 H0 P H σ env De Dh xh sr hm ok => ?_⟩
    obtain ⟨ds, es, he, he', hz, hz2, hm⟩ := hm
    obtain ⟨a, o, q1, q2, q3, q4, q5⟩ := sr.ow i _ h3 he
    obtain ⟨xs, rfl, rx⟩ := q5
    obtain ⟨b, o', p1, p2, p3, p4, p5⟩ := sr.ow j _ h3' he'
    obtain ⟨ys, rfl, ry⟩ := p5
    refine ⟨.ref a, q1, .inl ⟨rfl, xs, SqL.of q2⟩, ?_⟩
    refine ⟨.ref b, p1, .inl ⟨rfl, ys, SqL.of p2⟩, ?_⟩
    refine ht σ env P H _ De.ex _ sr.st.hp sr.er (xh.step sr.ok sr.st) hm fun d v P' H' F' hd r => ?_
    obtain ⟨n, y, rfl, n0, hy, hn⟩ := hd
    have hv : v = .int n := by simpa only [R] using r.r
    subst hv
    have sr1 := sr.step r.st
    have ha' := r.st.keep a _ q2 (sr.nad0 q3)
    have hb' := r.st.keep b _ p2 (sr.nad0 p3)
    have ry' := Rs.mono r.st.up _ _ ry
    obtain ⟨yv, hyv, ryv⟩ := ry'.get hy
    have hlt : n.toNat < ys.length := (List.getElem?_eq_some_iff.mp hyv).1
    have hbig : ys.length ≤ sizeLine := by rw [← ry.len]; exact hz2
    have hs : sizeLine = 16777216 := sizeLine_eq
    have hab : a ≠ b := fun z => hij (sr.dj i j _ _ a h3 h3' he he' q1 (z ▸ p1))
    have sr2 := sr1.mut (d' := .lst (es.eraseIdx n.toNat)) h3' he' p1 ⟨_, rfl, Rs.iff.mpr (pr_erase n.toNat (Rs.iff.mp ry'))⟩
    refine ⟨b, ys, n, n.toNat, yv, rfl, rfl, hb', by omega, by omega, seqIndex_of n0 (by omega), hyv, ?_⟩
    have he2 : (env.set j (some (.lst (es.eraseIdx n.toNat))))[i]? = some (some (.lst ds)) := by rw [List.getElem?_set_ne (Ne.symm hij)]; exact he
    refine ⟨a, xs, yv, rfl, rfl, by rw [upd_ne hab]; exact ha', by rw [← rx.len]; exact hz, ?_⟩
    exact ok.1 rfl _ _ _ _ hn (sr2.mut h3 he2 q1 ⟨_, rfl, (Rs.mono r.st.up _ _ rx).app (.cons ryv Rs.nil)⟩)
theorem s_ret {e : CE} : SndS W RX T k (.ret e) := by
  intro C X E F po B O lo st hO
  obtain ⟨⟨v, pos⟩, e1, h⟩ := oany_eq hO
  have e1 := retV_eq e1
  simp only at e1
  subst e1
  · obtain ⟨t, pe, ht⟩ := ((sndE W RX T k e (F.at B O) v).1 h).val
    exact ⟨_, ps_ret pe, fun P0 H0 P H σ env De Dh xh sr hm ok => ht σ env P H _ De.ex _ sr.st.hp sr.er (xh.step sr.ok sr.st) hm fun d v P' H' F' hd r => ok.2.1 _ _ _ _ _ hd (r.trans sr.ok sr.st)⟩
theorem s_drop {e : CE} : SndS W RX T k (.drop e) := by
  intro C X E F po B O lo st hO
  obtain ⟨⟨v, pos⟩, e1, h⟩ := oany_eq hO
  have e1 := exprV_eq e1
  simp only at e1
  subst e1
  · rw [Bool.and_eq_true] at h
    obtain ⟨t, pe, ht⟩ := (sndE W RX T k e (F.at B O) v).2.1 h.2
    exact ⟨_, ps_expr pe (no_swap h.1), fun P0 H0 P H σ env De Dh xh sr hm ok => ht σ env P H _ De.ex _ sr.st.hp sr.er (xh.step sr.ok sr.st) hm fun d v P' H' hd st r => ok.1 rfl _ _ _ _ hd (sr.step st)⟩
theorem s_pass : SndS W RX T k .pass := by
  intro C X E F po B O lo st hO
  have h : (isPass st).isSome = true := hO
  cases hp : isPass st with
  | none => rw [hp] at h; cases h
  | some pos => rw [isPass_eq hp]; exact ⟨_, ps_pass, fun P0 H0 P H σ env De Dh xh sr hm ok => ok.1 rfl _ _ _ _ hm sr⟩
theorem s_brk : SndS W RX T k .brk := by
  intro C X E F po B O lo st hO
  have h : ((isBrk st).isSome && decide (O = lo)) = true := hO
  rw [Bool.and_eq_true] at h
  obtain ⟨h1, h2⟩ := h
  have h2 : O = lo := by simpa using h2
  subst h2
  cases hp : isBrk st with
  | none => rw [hp] at h1; cases h1
  | some pos => rw [isBrk_eq hp]; exact ⟨_, ps_break, fun P0 H0 P H σ env De Dh xh sr hm ok => ok.2.2.1 _ _ _ _ hm sr⟩
theorem s_cont : SndS W RX T k .cont := by
  intro C X E F po B O lo st hO
  have h : ((isCont st).isSome && decide (O = lo)) = true := hO
  rw [Bool.and_eq_true] at h
  obtain ⟨h1, h2⟩ := h
  have h2 : O = lo := by simpa using h2
  subst h2
  cases hp : isCont st with
  | none => rw [hp] at h1; cases h1
  | some pos => rw [isCont_eq hp]; exact ⟨_, ps_continue, fun P0 H0 P H σ env De Dh xh sr hm ok => ok.2.2.2 _ _ _ _ hm sr⟩
theorem s_if {c : CE} {a b : CB} (ha : SndB W RX T k a) (hb : SndB W RX T k b) : SndS W RX T k (.if_ c a b) := by
  intro C X E F po B O lo st hO
  obtain ⟨⟨v, p, q, pos⟩, e1, h⟩ := oany_eq hO
  have e1 := ifV_eq e1
  simp only at e1
  subst e1
  · simp only [Bool.and_eq_true] at h
    obtain ⟨⟨⟨h1, h2⟩, h3⟩, h4⟩ := h
    obtain ⟨t, pt, ht⟩ := (sndE W RX T k c (F.at B O) v).2.2 h1
    obtain ⟨ta, pa, ha⟩ := ha F po B O lo p h2
    obtain ⟨tb, pb, hb⟩ := hb F po B O lo q h3
    refine ⟨_, ps_if pt pa pb, fun P0 H0 P H σ env De Dh xh sr hm ok => ht σ env P H _ De.ex _ sr.st.hp sr.er (xh.step sr.ok sr.st) hm fun x P' H' hd st => ?_⟩
    have oa : fallsB a = true → outS (.if_ c a b) O = outB a O := fun z => by show (if fallsB a = true then outB a O else outB b O) = _; rw [if_pos z]
    have ob : fallsB b = true → outS (.if_ c a b) O = outB b O := fun z => by
      show (if fallsB a = true then outB a O else outB b O) = _
      by_cases y : fallsB a = true
      · rw [if_pos y] at h4 ⊢
        rw [if_pos z] at h4
        simpa using h4
      · rw [if_neg y]
    cases x with
    | true =>
      refine ha P0 H0 P' H' σ env De Dh xh (sr.step st) hd ⟨fun z env σ P H n s => ?_, ok.2⟩
      refine ok.1 (show (fallsB a || fallsB b) = true by rw [z]; rfl) env σ P H n ?_
      rw [oa z]; exact s
    | false =>
      refine hb P0 H0 P' H' σ env De Dh xh (sr.step st) hd ⟨fun z env σ P H n s => ?_, ok.2⟩
      refine ok.1 (show (fallsB a || fallsB b) = true by rw [z]; exact Bool.or_true _) env σ P H n ?_
      rw [ob z]; exact s
theorem s_while {c : CE} {b : CB} (hb : SndB W RX T k b) : SndS W RX T k (.while_ c b) := by
  intro C X E F po B O lo st hO
  obtain ⟨⟨v, body, pos⟩, e1, h⟩ := oany_eq hO
  have e1 := whileV_eq e1
  simp only at e1
  subst e1
  · simp only [Bool.and_eq_true] at h
    obtain ⟨⟨h1, h2⟩, h3⟩ := h
    obtain ⟨t, pt, ht⟩ := (sndE W RX T k c (F.at B O) v).2.2 h1
    obtain ⟨tb, pb, hb⟩ := hb F po B O O body h2
    refine ⟨_, ps_while po pt pb, fun P0 H0 P H σ env De Dh xh sr hm ok => ?_⟩
    obtain ⟨I, ⟨m0, i0⟩, turn⟩ := hm
    refine ⟨fun m σ H => ∃ P env, SR W B O P0 H0 P H σ env ∧ I m env, ⟨m0, P, env, sr, i0⟩, fun m σ H ⟨P, env, sr, im⟩ => ?_⟩
    refine ht σ env P H _ De.ex _ sr.st.hp sr.er (xh.step sr.ok sr.st) (turn m env im) fun x P' H' hd st => ?_
    have sr1 := sr.step st
    cases x with
    | false => exact ok.1 rfl _ _ _ _ hd sr1
    | true =>
      refine ⟨fun σ H => ∃ P env, SR W B O P0 H0 P H σ env ∧ ∃ m', m' < m ∧ I m' env, fun σ' H' ⟨P, env, s, m', hm, im⟩ => ⟨m', hm, P, env, s, im⟩, ?_⟩
      refine hb P0 H0 P' H' σ env { De with nx := fun e' => ∃ m', m' < m ∧ I m' e', ct := fun e' => ∃ m', m' < m ∧ I m' e', bk := De.nx } _ xh sr1 hd ⟨fun z env σ P H n s => ⟨P, env, ?_, n⟩, ok.2.1, fun env σ P H n s => ok.1 rfl _ _ _ _ n s, fun env σ P H n s => ⟨P, env, s, n⟩⟩
      rw [if_pos z] at h3
      have h3 : outB b O = O := by simpa using h3
      rw [h3] at s
      exact s
theorem Stp.low {P0 H0 P1 P H : Hp} (s : Stp W P1 H0 P H) (u : Ex P0 P1) (n : ∀ a, P1 a ≠ none → P0 a ≠ none ∨ H0 a = none) : Stp W P0 H0 P H :=
  ⟨s.hp, u.trans s.up, fun a h => (s.new a h).elim (n a) .inr, s.keep⟩
theorem Stp.high {P0 H0 P1 P H : Hp} (s : Stp W P0 H0 P H) (u : Ex P1 P) (n : Ex P0 P1) : Stp W P1 H0 P H :=
  ⟨s.hp, u, fun a h => (s.new a h).imp (fun z q => by
    cases e : P0 a with
    | none => exact z e
    | some o => rw [n a o e] at q; cases q) id, s.keep⟩
theorem SR.low {B O : List Bool} {P0 H0 P1 P H : Hp} {σ : L2.St} {env : Env} (s : SR W B O P1 H0 P H σ env) (u : Ex P0 P1) (n : ∀ a, P1 a ≠ none → P0 a ≠ none ∨ H0 a = none) : SR W B O P0 H0 P H σ env :=
  ⟨s.ok, s.st.low u n, s.ln, s.sh, s.bo, s.ow, s.dj⟩
theorem SR.high {B O : List Bool} {P0 H0 P1 P H : Hp} {σ : L2.St} {env : Env} (s : SR W B O P0 H0 P H σ env) (u : Ex P1 P) (n : Ex P0 P1) : SR W B O P1 H0 P H σ env :=
  ⟨s.ok, s.st.high u n, s.ln, s.sh, s.bo, s.ow, s.dj⟩
theorem s_for {s : Src} {its : CL} {tg : Tg} {b : CB} (hb : SndB W RX T k b) : SndS W RX T k (.for_ s its tg b) := by
  intro C X E F po B O lo st hO
  obtain ⟨⟨tge, iter, body, pos⟩, e1, hA⟩ := oany_eq hO
  obtain ⟨xs, hs, h⟩ := oany_eq hA
  have e1 := forV_eq e1
  simp only at e1 hs
  subst e1
  · · simp only [Bool.and_eq_true] at h
      obtain ⟨⟨⟨⟨⟨⟨h1, h2⟩, h3⟩, h4⟩, h5⟩, h6⟩, h7⟩ := h
      obtain ⟨wi, pi, hsrc⟩ := src_S (b := true) (tg := tge) (iter := iter) (F.at B O) (sndL W RX T k its) hs h2 h3
      obtain ⟨g, pg, hg⟩ := tg_R F h5
      obtain ⟨tb, pb, hb⟩ := hb F po B O O body h6
      refine ⟨_, ps_for po F.calm pi pg pb (no_fold h1), fun P0 H0 P H σ env De Dh xh sr hm ok => ?_⟩
      refine hsrc σ env P H _ De.ex _ sr.st.hp sr.er (xh.step sr.ok sr.st) hm fun ds J P1 H1 S hgo st itd q1 q2 q3 => ?_
      obtain rfl : S = emp := q3 rfl
      have emp2 : ∀ H : Hp, Ex emp H := fun H _ _ z => nomatch z
      have sr1 := sr.step st
      have u01 : Ex P0 P1 := sr1.st.up
      have n01 := sr1.st.new
      refine ⟨fun i m σ H => m = ds.length - i ∧ i ≤ ds.length ∧ ∃ P env, SR W B O P1 H0 P H σ env ∧ goF (fun d env => tg.bind d env) (wB T b) (ds.drop i) env De, ⟨ds.length, by simp, Nat.zero_le _, P1, env, sr1.high (Ex.refl _) u01, by rw [List.drop_zero]; exact hgo⟩, ?_⟩
      rintro i m σ H ⟨rfl, hi, P, env, sr, g1⟩
      obtain ⟨t1, t2, t3⟩ := itd i P H sr.st.hp sr.st.up (emp2 H)
      by_cases hlt : i < ds.length
      · refine .inr ⟨t1 hlt, fun σ H => ∃ P env, SR W B O P1 H0 P H σ env ∧ goF (fun d env => tg.bind d env) (wB T b) (ds.drop (i + 1)) env De, fun σ' H' z => ⟨ds.length - (i + 1), by omega, rfl, hlt, z⟩, fun x H' y => ?_⟩
        obtain ⟨d, P2, e2, st2, rd⟩ := t3 x H' hlt y
        rw [drop_at hlt e2] at g1
        obtain ⟨env', hbd, g1⟩ := g1
        refine hg d x σ env env' P2 H' _ st2.hp rd hbd fun es vs rs hset => ?_
        have hset2 : setAll tg.slots es env = some env' := hset
        have sr2 := (sr.step st2).sets h4 rs hset2
        refine hb P1 H0 P2 H' _ env' { De with nx := fun e => goF (fun d env => tg.bind d env) (wB T b) (ds.drop (i + 1)) e De, ct := fun e => goF (fun d env => tg.bind d env) (wB T b) (ds.drop (i + 1)) e De, bk := De.nx } _ (fun x c dd P' H' a s r => xh x c dd P' H' a (s.low u01 n01) r) sr2 g1 ⟨fun z env σ P H n s => ⟨P, env, ?_, n⟩, fun d v P' H' F' hd r => ok.2.1 d v P' H' F' hd ⟨r.st.low u01 n01, r.ro, r.fs, r.fn, r.fp⟩, fun env σ P H n s => ok.1 rfl _ _ _ _ n (s.low u01 n01), fun env σ P H n s => ⟨P, env, s, n⟩⟩
        rw [if_pos z] at h7
        have h7 : outB b O = O := by simpa using h7
        rw [h7] at s
        exact s
      · have e : i = ds.length := by omega
        subst e
        rw [List.drop_length] at g1
        exact .inl ⟨t2 (Nat.le_refl _), ok.1 rfl _ _ _ _ g1 (sr.low u01 n01)⟩
theorem b_nil : SndB W RX T k .nil := by
  intro C X E F po B O lo ss h
  cases ss with
  | cons _ _ => cases h
  | nil => exact ⟨_, pss_nil, fun P0 H0 P H σ env De Dh xh sr hm ok => ok.1 rfl _ _ _ _ hm sr⟩

theorem folded_none {xs : List Expr} {env : PySem.Env} : True := trivial
theorem s_par2 {ki kj : Bool} {i j : Nat} {a b : CE} : SndS W RX T k (.par2 ki kj i j a b) := by
  intro C X E F po B O lo st hO
  obtain ⟨⟨tg, v, pos⟩, e1, hA⟩ := oany_eq hO
  obtain ⟨⟨ts, kt, pt⟩, e2, hB⟩ := oany_eq hA
  obtain ⟨⟨t1, t2⟩, e3, hC⟩ := oany_eq hB
  obtain ⟨⟨x, px⟩, e4, hD⟩ := oany_eq hC
  obtain ⟨⟨y, py⟩, e5, hE⟩ := oany_eq hD
  obtain ⟨⟨ws, k2, pt2⟩, e6, hF⟩ := oany_eq hE
  obtain ⟨⟨u, w⟩, e7, h⟩ := oany_eq hF
  have e1 := asgV_eq e1
  have e2 := tupV_eq e2
  have e3 := two?_eq e3
  have e4 := nameV_eq e4
  have e5 := nameV_eq e5
  have e6 := tupV_eq e6
  have e7 := two?_eq e7
  simp only at e1 e2 e3 e4 e5 e6 e7
  subst e1
  clear hO hA hB hC hD hE hF
  simp only [Bool.and_eq_true, decide_eq_true_eq, Bool.not_eq_true'] at h
  obtain ⟨⟨⟨⟨⟨⟨⟨⟨⟨⟨⟨⟨⟨⟨⟨⟨⟨⟨h1, h2⟩, h3⟩, h4⟩, h5⟩, h6⟩, hli⟩, hlj⟩, hki⟩, hkj⟩, h7⟩, h8⟩, h9⟩, h10⟩, h11⟩, h12⟩, h13⟩, h14⟩, h15⟩ := h
  rw [e2, e3, e4, e5, e6, e7]
  have lx : X.env.scope.names.lookup x = some .local := by rw [F.sc]; unfold loc at h4; simpa using h4
  have ly : X.env.scope.names.lookup y = some .local := by rw [F.sc]; unfold loc at h5; simpa using h5
  -- as a shared value, or owned
  have both : ∀ (kp : Bool) (c : CE) (z : Expr), chkE c (C.at B O) .v z = true → (if kp = true then decide (dep C.fs c = 1) else true) = true → SE W RX (C.at B O) X E z (wE T c) (if kp = true then 1 else 0) := by
    intro kp c z h1 h2
    have q := (sndE W RX T k c (F.at B O) z).1 h1
    cases kp with
    | false => exact q.val
    | true =>
      have e : dep C.fs c = 1 := by simpa using h2
      have e2 : dep (C.at B O).fs c = 1 := e
      rw [e2] at q
      exact q
  obtain ⟨ta, pa, ha⟩ := both ki a u h14 hki
  obtain ⟨tb, pb, hb⟩ := both kj b w h15 hkj
  have kx : X.env.kindOf x = some .local := lx
  have ky : X.env.kindOf y = some .local := ly
  have hbk : X.env.blockKind = .function := by unfold PySem.Env.blockKind; rw [F.sc, isFun_of h7]; rfl
  refine ⟨_, ps_par F.calm (by rw [F.hN]; exact F.nd) (by rw [F.hN]; exact h1) (by rw [F.hN]; exact h2) h3 lx ly (pa_cons pa (pa_cons pb pa_nil (star_cons h11)) (star_cons h10)) ?_ (by rw [swapsWithSole]; rfl), fun P0 H0 P H σ env De Dh xh sr hm ok => ?_⟩
  · unfold swappedStores
    have hyx : (y == x) = false := by
      cases q : y == x with
      | false => rfl
      | true =>
        have : y = x := by simpa using q
        subst this
        simp at h9
    simp only [List.length_cons, List.length_nil, hbk, h12, h13, kx, ky, List.filterMap_cons, List.filterMap_nil, List.head?_cons, Option.map_some, Option.getD_some, Expr.pos, h8, beq_self_eq_true, Bool.and_true, if_true]
    have any_star : ∀ f : Expr → Bool, (∀ e, nst e = true → f e = false) → ¬ ([u, w].any f = true) := fun f hf z => by
      have : (f u || (f w || false)) = true := z
      rw [hf u h10, hf w h11] at this
      cases this
    have hed : [x, y].eraseDups = [x, y] := by
      rw [List.eraseDups_cons]
      have : [y].filter (fun b => !b == x) = [y] := by rw [List.filter_cons, hyx]; rfl
      rw [this]; rfl
    rw [if_neg (by decide), if_neg (any_star _ fun e he => by cases e <;> first | rfl | cases he), hed]
    rfl
  · refine ha σ env P H _ De.ex _ sr.st.hp sr.er (xh.step sr.ok sr.st) hm fun d1 v1 P1 H1 F1 z1 r1 => ?_
    have sr1 := sr.step r1.st
    refine hb σ env P1 H1 _ De.ex _ sr1.st.hp sr1.er (xh.step sr1.ok sr1.st) z1 fun d2 v2 P2 H2 F2 z2 r2 => ⟨v1, v2, rfl, ?_⟩
    have hc : own O i = false ∧ own B i = false ∧ own O j = false ∧ own B j = false := by
      have : ((!own O i && !own B i) && ((!own O j && !own B j) && true)) = true := h6
      simp only [Bool.and_true, Bool.and_eq_true, Bool.not_eq_true'] at this
      exact ⟨this.1.1, this.1.2, this.2.1, this.2.2⟩
    have sr2 := sr1.step r2.st
    have r1' := r1.later sr.st.hp.ok r2.st
    -- the first one
    have st1 : SR W B (O.set i ki) P0 H0 P2 H2 (σ.set i (some v1)) (env.set i (some d1)) ∧ (ki = true → ∃ a1, v1 = .ref a1 ∧ H1 a1 ≠ none) := by
      cases ki with
      | false =>
        have r : Res W 0 P H d1 v1 P2 H2 F1 := r1'
        exact ⟨sr2.put hc.2.1 r.r, fun z => by cases z⟩
      | true =>
        have r : Res W 1 P H d1 v1 P2 H2 F1 := r1'
        have r0 : Res W 1 P H d1 v1 P1 H1 F1 := r1
        obtain ⟨a1, o1, rfl, rfl, rc1⟩ := r.ro
        have n1 : one a1 o1 a1 ≠ none := by rw [one_at]; exact fun z => nomatch z
        refine ⟨sr2.putN hc.2.1 hli (r.fs a1 o1 one_at) (sr.st.back sr.ok (r.fn a1 n1)) (r.fp a1 n1) rc1 fun k e b ho he hs z => ?_, fun _ => ⟨a1, rfl, by rw [r0.fs a1 o1 one_at]; exact fun z => nomatch z⟩⟩
        obtain ⟨a', o', q1, q2, _⟩ := sr.ow k e ho he
        rw [hs] at q1
        cases q1
        rw [z, r.fn a1 n1] at q2
        cases q2
    have hoj : own (O.set i ki) j = false := by rw [own_set, if_neg h3]; exact hc.2.2.1
    have fin : SR W B ((O.set i ki).set j kj) P0 H0 P2 H2 ((σ.set i (some v1)).set j (some v2)) ((env.set i (some d1)).set j (some d2)) := by
      cases kj with
      | false =>
        have r : Res W 0 P1 H1 d2 v2 P2 H2 F2 := r2
        exact st1.1.put hc.2.2.2 r.r
      | true =>
        have r : Res W 1 P1 H1 d2 v2 P2 H2 F2 := r2
        obtain ⟨a2, o2, rfl, rfl, rc2⟩ := r.ro
        have n2 : one a2 o2 a2 ≠ none := by rw [one_at]; exact fun z => nomatch z
        refine st1.1.putN hc.2.2.2 (by rw [List.length_set]; exact hlj) (r.fs a2 o2 one_at) (sr1.st.back sr.ok (r.fn a2 n2)) (r.fp a2 n2) rc2 fun k e b ho he hs z => ?_
        subst z
        by_cases hk : i = k
        · subst hk
          rw [own_set, if_pos rfl, if_pos hli] at ho
          obtain ⟨a1, e1, e2⟩ := st1.2 ho
          subst e1
          have hi : i < σ.length := by
            have := (List.getElem?_eq_some_iff.mp hs).1
            rw [List.length_set] at this; exact this
          rw [List.getElem?_set_self hi] at hs
          cases hs
          exact e2 (r.fn _ n2)
        · rw [own_set, if_neg hk] at ho
          rw [List.getElem?_set_ne hk] at he hs
          obtain ⟨a', o', q1, q2, _⟩ := sr1.ow k e ho he
          rw [hs] at q1
          cases q1
          rw [r.fn _ n2] at q2
          cases q2
    exact ok.1 rfl _ _ _ _ z2 fin
theorem b_cons {s : CS} {r : CB} (hs : SndS W RX T k s) (hr : SndB W RX T k r) : SndB W RX T k (.cons s r) := by
  intro C X E F po B O lo ss hO
  have plain : (∀ is, s ≠ .frz is) → ∃ st rest, ss = st :: rest ∧ chkS s C B O lo st = true ∧ (falls s || isNilB r) = true ∧ chkB r C B (outS s O) lo rest = true := by
    intro hne
    cases ss with
    | nil => cases s <;> first | (exact absurd rfl (hne _)) | cases hO
    | cons st rest =>
      have h : (chkS s C B O lo st && (falls s || isNilB r) && chkB r C B (outS s O) lo rest) = true := by
        cases s <;> first | exact hO | exact absurd rfl (hne _)
      rw [Bool.and_eq_true, Bool.and_eq_true] at h
      exact ⟨st, rest, rfl, h.1.1, h.1.2, h.2⟩
  have main : (∀ is, s ≠ .frz is) → ∃ t : TS, PSs X ss t ∧ SS W RX B E O (outB (.cons s r) O) lo (fallsB (.cons s r)) t (wB T (.cons s r)) := by
    intro hne
    obtain ⟨st, rest, rfl, h1, h2, h3⟩ := plain hne
    obtain ⟨t1, p1, k1⟩ := hs F po B O lo st h1
    obtain ⟨t2, p2, k2⟩ := hr F po B (outS s O) lo rest h3
    refine ⟨_, pss_cons p1 p2, fun P0 H0 P H σ env De Dh xh sr hm ok => ?_⟩
    refine k1 P0 H0 P H σ env { De with nx := fun e => wB T r e De } _ xh sr hm ⟨fun z env σ P H n s' => ?_, ok.2⟩
    refine k2 P0 H0 P H σ env De Dh xh s' n ⟨fun z2 env σ P H n s' => ok.1 ?_ env σ P H n s', ok.2⟩
    show (falls s && fallsB r) = true
    rw [z, z2]; rfl
  cases s with
  | frz is =>
    have h : (clear B [] is && chkB r C B (frzL is O) lo ss) = true := hO
    rw [Bool.and_eq_true] at h
    obtain ⟨h1, h2⟩ := h
    obtain ⟨t2, p2, k2⟩ := hr F po B (frzL is O) lo ss h2
    refine ⟨t2, p2, fun P0 H0 P H σ env De Dh xh sr hm ok => ?_⟩
    have hb : ∀ i ∈ is, own B i = false := fun i hi => by
      have := List.all_eq_true.mp (show (is.all fun i => !own [] i && !own B i) = true from h1) i hi
      simp only [Bool.and_eq_true, Bool.not_eq_true'] at this
      exact this.2
    obtain ⟨P', _, sr'⟩ := sr.frz hb
    refine k2 P0 H0 P' H σ env De Dh xh sr' hm ⟨fun z env σ P H n s' => ok.1 (show (true && fallsB r) = true from by rw [z]; rfl) env σ P H n s', ok.2⟩
  | _ => exact main fun is z => by cases z
theorem s_frz {is : List Nat} : SndS W RX T k (.frz is) := by
  intro C X E F po B O lo st hO
  cases hO
mutual
theorem sndS (W : Wd) (RX : RXT) (T : Tb) (k : Nat) : ∀ s : CS, SndS W RX T k s
  | .frz _ => s_frz
  | .asg _ _ _ => s_asg
  | .unp _ _ => s_unp
  | .par2 _ _ _ _ _ _ => s_par2
  | .app _ _ => s_app
  | .ext _ _ => s_ext
  | .appPop _ _ _ => s_appPop
  | .ret _ => s_ret
  | .if_ _ a b => s_if (sndB W RX T k a) (sndB W RX T k b)
  | .for_ _ _ _ b => s_for (sndB W RX T k b)
  | .while_ _ b => s_while (sndB W RX T k b)
  | .drop _ => s_drop
  | .pass => s_pass
  | .brk => s_brk
  | .cont => s_cont
theorem sndB (W : Wd) (RX : RXT) (T : Tb) (k : Nat) : ∀ b : CB, SndB W RX T k b
  | .nil => b_nil
  | .cons s r => b_cons (sndS W RX T k s) (sndB W RX T k r)
end
end
end VI
set_option Elab.async false
set_option linter.all false
set_option maxRecDepth 100000
set_option maxHeartbeats 2000000
/-! VT: a def, from its body -/
namespace VI
open PySem PySem.Spec PyProof.Rows L2

/-- what the module gives, whatever the context -/
structure MF (W : Wd) (RX : RXT) (T : Tb) (P : Program) (w : World) (K : PySem.W.Frag) (mg : Str → Option Value) (base : Heap) (k : Nat) (fs : List (Str × List Bool × Nat)) (ks : List (Nat × Nat × List Str × List Nat)) (ky : List Nat) : Prop where
  bl : ∀ b : Blt, mg b.nm = none
  rg : mg "range" = none ∧ mg "enumerate" = none ∧ mg "zip" = none
  fns : ∀ (i : Nat) nm md dp, fs[i]? = some (nm, md, dp) → ∃ fi f fd ps, T.fs[i]? = some fi ∧ fi.md = md ∧ fi.dep = dp ∧ mg nm = some (.ref f) ∧ PySem.W.keepIn K (.ref f) = true ∧ Binds K fd ps [] ∧ ps.length = md.length ∧
    FnG P w K mg base k f fd ps (SpV W RX fi)
  kws : ∀ (c : Nat) f n nms pm, ks[c]? = some (f, n, nms, pm) → T.ks[c]? = some ⟨f, n, nms, pm⟩ ∧ ∀ nm md dp, fs[f]? = some (nm, md, dp) → ∃ fi fa fd ps, T.fs[f]? = some fi ∧ fi.md = md ∧ fi.dep = dp ∧ mg nm = some (.ref fa) ∧
    PySem.W.keepIn K (.ref fa) = true ∧ KBn K fd ps n nms (fun us ws => pm.map fun i => (us ++ ws).getD i Value.none) (fun vs zs => pm.map fun i => (vs ++ zs).getD i V.non) ∧ FnG P w K mg base k fa fd ps (SpV W RX fi)
  kys : ∀ (i : Nat) nm md dp, fs[i]? = some (nm, md, dp) → i ∈ ky → RankFn P w K mg base nm
section
variable {W : Wd} {RX : RXT} {T : Tb} {P : Program} {w : World} {K : PySem.W.Frag} {mg : Str → Option Value} {base : Heap} {k j : Nat} {fs : List (Str × List Bool × Nat)} {ks : List (Nat × Nat × List Str × List Nat)} {ky : List Nat}
theorem MF.up (M : MF W RX T P w K mg base k fs ks ky) (h : k ≤ j) : MF W RX T P w K mg base j fs ks ky where
  bl := M.bl
  rg := M.rg
  fns := fun i nm md dp e => by
    obtain ⟨fi, f, fd, ps, a1, a2, a3, a4, a5, a6, a7, a8⟩ := M.fns i nm md dp e
    exact ⟨fi, f, fd, ps, a1, a2, a3, a4, a5, a6, a7, a8.up h⟩
  kws := fun c f n nms pm e => ⟨(M.kws c f n nms pm e).1, fun nm md dp q => by
    obtain ⟨fi, fa, fd, ps, a1, a2, a3, a4, a5, a6, a7⟩ := (M.kws c f n nms pm e).2 nm md dp q
    exact ⟨fi, fa, fd, ps, a1, a2, a3, a4, a5, a6, a7.up h⟩⟩
  kys := M.kys
/-- one def more -/
theorem MF.snoc (M : MF W RX T P w K mg base k fs ks ky) {nm : Str} {md : List Bool} {dp : Nat} (h : ∃ fi f fd ps, T.fs[fs.length]? = some fi ∧ fi.md = md ∧ fi.dep = dp ∧ mg nm = some (.ref f) ∧ PySem.W.keepIn K (.ref f) = true ∧ Binds K fd ps [] ∧ ps.length = md.length ∧
    FnG P w K mg base k f fd ps (SpV W RX fi)) (hks : ∀ (c : Nat) f n nms pm, ks[c]? = some (f, n, nms, pm) → f ≠ fs.length) (hky : fs.length ∉ ky) : MF W RX T P w K mg base k (fs ++ [(nm, md, dp)]) ks ky := by
  have old : ∀ (i : Nat) r, (fs ++ [(nm, md, dp)])[i]? = some r → i ≠ fs.length → fs[i]? = some r := fun i r e ne => by
    by_cases hi : i < fs.length
    · rw [List.getElem?_append_left hi] at e; exact e
    · rw [List.getElem?_eq_none (by rw [List.length_append, List.length_singleton]; omega)] at e; cases e
  refine ⟨M.bl, M.rg, fun i nm' md' dp' e => ?_, fun c f n nms pm e => ⟨(M.kws c f n nms pm e).1, fun nm' md' dp' q => (M.kws c f n nms pm e).2 nm' md' dp' (old f _ q (hks c f n nms pm e))⟩, fun i nm' md' dp' e hi => M.kys i nm' md' dp' (old i _ e fun z => hky (z ▸ hi)) hi⟩
  by_cases hi : i = fs.length
  · subst hi
    rw [List.getElem?_append_right (Nat.le_refl _), Nat.sub_self] at e
    have e : some (nm, md, dp) = some (nm', md', dp') := e
    cases e
    exact h
  · exact M.fns i nm' md' dp' (old i _ e hi)
/-- .. that is called with keywords, too -/
theorem MF.kw (M : MF W RX T P w K mg base k fs ks ky) {f n : Nat} {nms : List Str} {pm : List Nat} (t : T.ks[ks.length]? = some ⟨f, n, nms, pm⟩) (h : ∀ nm md dp, fs[f]? = some (nm, md, dp) → ∃ fi fa fd ps, T.fs[f]? = some fi ∧ fi.md = md ∧ fi.dep = dp ∧ mg nm = some (.ref fa) ∧
    PySem.W.keepIn K (.ref fa) = true ∧ KBn K fd ps n nms (fun us ws => pm.map fun i => (us ++ ws).getD i Value.none) (fun vs zs => pm.map fun i => (vs ++ zs).getD i V.non) ∧ FnG P w K mg base k fa fd ps (SpV W RX fi)) :
    MF W RX T P w K mg base k fs (ks ++ [(f, n, nms, pm)]) ky := by
  refine ⟨M.bl, M.rg, M.fns, fun c f' n' nms' pm' e => ?_, M.kys⟩
  by_cases hc : c < ks.length
  · rw [List.getElem?_append_left hc] at e
    exact M.kws c f' n' nms' pm' e
  · by_cases hc2 : c = ks.length
    · subst hc2
      rw [List.getElem?_append_right (Nat.le_refl _), Nat.sub_self] at e
      have e : some (f, n, nms, pm) = some (f', n', nms', pm') := e
      cases e
      exact ⟨t, h⟩
    · rw [List.getElem?_eq_none (by rw [List.length_append, List.length_singleton]; omega)] at e; cases e
/-- .. that is a key -/
theorem MF.key (M : MF W RX T P w K mg base k fs ks ky) {i : Nat} (h : ∀ nm md dp, fs[i]? = some (nm, md, dp) → RankFn P w K mg base nm) : MF W RX T P w K mg base k fs ks (i :: ky) :=
  ⟨M.bl, M.rg, M.fns, M.kws, fun j nm md dp e hj => (List.mem_cons.mp hj).elim (fun z => h nm md dp (z ▸ e)) fun z => M.kys j nm md dp e z⟩

/-- the slots at a def's start -/
def startE (n : Nat) (ds : List D) : Env := ds.map some ++ List.replicate (n - ds.length) none
def baseC (N : List Str) (sc : Scope) (fs : List (Str × List Bool × Nat)) (ks : List (Nat × Nat × List Str × List Nat)) (ky : List Nat) : Cf := ⟨N, sc, fun _ => true, fs, ks, ky, fun _ => false, fun _ => false⟩
theorem xf_of {N ps : List Str} {qual : Str} {scope : Scope} {f : Addr} {cdv : Value} {B : Around} {fr : List PySem.Env} {s : Shared} {H : Hp} {E : XK} (M : MF W RX T P w K mg base k fs ks ky) (S : FnScope N ps scope) (gd : Gd B) (hr : Room k (B.deeper (envOfC qual scope s.heap.objs.size f cdv))) (k5 : 5 ≤ k) :
    XF W RX T k (baseC N scope fs ks ky) (cxOf (L2.CX P w) P w K mg base N qual scope f cdv B fr s H E) E where
  hN := rfl
  sc := rfl
  fb := rfl
  nd := S.nd
  gd := gd
  room := hr
  k5 := k5
  calm := rfl
  ps := passes_call (takes_of rfl rfl rfl rfl) fun _ _ _ _ z => z
  bl := M.bl
  rg := M.rg
  fns := M.fns
  kws := M.kws
  kys := M.kys
theorem start_get {n : Nat} {ds : List D} {i : Nat} {d : D} (h : (startE n ds)[i]? = some (some d)) : ds[i]? = some d := by
  unfold startE at h
  by_cases hi : i < ds.length
  · rw [List.getElem?_append_left (by rw [List.length_map]; exact hi), List.getElem?_map] at h
    cases e : ds[i]? with
    | none => rw [e] at h; cases h
    | some x => rw [e] at h; cases h; rfl
  · rw [List.getElem?_append_right (by rw [List.length_map]; omega), List.getElem?_replicate] at h
    split at h <;> cases h
theorem start_at {N : List Str} {vs : List V} {i : Nat} {v : V} (h : vs[i]? = some v) : (L2.start N vs)[i]? = some (some v) := by
  unfold L2.start
  have hi : i < vs.length := (List.getElem?_eq_some_iff.mp h).1
  rw [List.getElem?_append_left (by rw [List.length_map]; exact hi), List.getElem?_map, h]; rfl
theorem RM.at {P0 H : Hp} : ∀ {ms : List Bool} {ds : List D} {vs : List V} {i : Nat} {d : D}, RM W P0 H ms ds vs → ds[i]? = some d → ∃ v, vs[i]? = some v ∧ (if ms.getD i false = true then R W.dk P0 d v else RB W P0 H d v)
  | [], _, _, i, d, h, e => by obtain ⟨rfl, rfl⟩ := h; cases e
  | m :: ms, _, _, 0, d, h, e => by
    obtain ⟨d', ds', v, vs', rfl, rfl, h1, h2⟩ := h
    cases e
    exact ⟨v, rfl, h1⟩
  | m :: ms, _, _, i + 1, d, h, e => by
    obtain ⟨d', ds', v, vs', rfl, rfl, h1, h2⟩ := h
    exact RM.at (ms := ms) h2 e
/-- a def on data: its text is the term cb, which does what the promise says -/
theorem fn_V {x qual : Str} {st : Stmt} {f : Addr} {fd : FuncData} {N ps : List Str} {fi : FI} {cb : CB} (M : MF W RX T P w K mg base k fs ks ky) (k5 : 5 ≤ k) (F : Fun K x qual st f fd) (S : FnScope N ps (defScope st)) (hm : fi.md.length = ps.length) (hd : fi.dep = 0)
    (hk : chkB cb (baseC N (defScope st) fs ks ky) (fi.md.map (!·)) (List.replicate N.length false) [] (defBody st) = true)
    (hsp : ∀ ds post ex, fi.sp ds post ex → wB T cb (startE N.length ds) ⟨fun _ => post .non, post, fun _ => False, fun _ => False, ex⟩) :
    FnG P w K mg base (k + 1) f fd ps (SpV W RX fi) := by
  refine gn_of F S (fun xs h q e ⟨P0, ds, post, ex, _, rm, _⟩ => by rw [rm.len.2, hm]) fun cdv B fr s h xs q e gd hr hs => ?_
  obtain ⟨P0, ds, post, ex, hp, rm, sp, hq, hx⟩ := hs
  have XFF := xf_of (E := e) (fr := fr) (H := h) M S gd hr k5
  obtain ⟨t, pt, ht⟩ := sndB W RX T k cb XFF (passes_of rfl) (fi.md.map (!·)) (List.replicate N.length false) [] (defBody st) hk
  refine ⟨t, pt, ht P0 h P0 h (L2.start N xs) (startE N.length ds) ⟨fun _ => post .non, post, fun _ => False, fun _ => False, ex⟩ _ hx ?_ (hsp ds post ex sp) ⟨fun _ env σ P1 H1 n sr => ?_, fun d v P' H' F' hd' r => ?_, fun _ _ _ _ z => z.elim, fun _ _ _ _ z => z.elim⟩⟩
  · have no : ∀ i, own (List.replicate N.length false) i = false := fun i => by
      unfold own
      rw [List.getD_eq_getElem?_getD, List.getElem?_replicate]
      split <;> rfl
    have ob : ∀ i, own (fi.md.map (!·)) i = (if i < fi.md.length then !(fi.md.getD i false) else false) := fun i => by
      unfold own
      rw [List.getD_eq_getElem?_getD, List.getElem?_map, List.getD_eq_getElem?_getD]
      by_cases hi : i < fi.md.length
      · rw [if_pos hi, List.getElem?_eq_getElem hi]; rfl
      · rw [if_neg hi, List.getElem?_eq_none (by omega)]; rfl
    have hl := rm.len
    refine ⟨hp.ok, .refl hp, ?_, fun i d _ hb he => ?_, fun i d _ hb he => ?_, fun i d ho => ?_, fun i j d e a ho => ?_⟩
    · unfold startE L2.start
      rw [List.length_append, List.length_append, List.length_map, List.length_map, List.length_replicate, List.length_replicate, hl.1, hl.2]
    · have he := start_get he
      obtain ⟨v, hv, r⟩ := RM.at rm he
      rw [ob] at hb
      have hi : i < fi.md.length := by rw [← hl.1]; exact (List.getElem?_eq_some_iff.mp he).1
      rw [if_pos hi] at hb
      have hb : fi.md.getD i false = true := by simpa using hb
      rw [if_pos hb] at r
      exact ⟨v, start_at hv, r⟩
    · have he := start_get he
      obtain ⟨v, hv, r⟩ := RM.at rm he
      rw [ob] at hb
      have hi : i < fi.md.length := by rw [← hl.1]; exact (List.getElem?_eq_some_iff.mp he).1
      rw [if_pos hi] at hb
      have hb : fi.md.getD i false = false := by simpa using hb
      rw [if_neg (by rw [hb]; exact Bool.false_ne_true)] at r
      exact ⟨v, start_at hv, r⟩
    · rw [no] at ho; cases ho
    · rw [no] at ho; cases ho
  · exact hq .non .non P1 H1 emp n (by rw [hd]; exact .of sr.st (rnon P1))
  · rw [hd] at hq
    exact hq d v P' H' F' hd' r
end
theorem fun_of {K : PySem.W.Frag} {x qual : Str} {st : Stmt} {f : Addr} {fd : FuncData} (F : FunD K x qual (defArgs st) (defBody st) (defScope st) [] [] f fd) : Fun K x qual st f fd := by
  obtain ⟨oc, od, dV, kV, doc, pm, an, cdv, ct, osl, e1, lk, hcd, hD, _⟩ := F.ex
  have e2 : dV = .none := by
    rcases hD with ⟨_, z⟩ | ⟨z, _⟩
    · exact z
    · exact absurd rfl z
  subst e2
  exact ⟨⟨oc, od, kV, doc, pm, an, cdv, ct, osl, e1, lk, hcd⟩, F.kp⟩
end VI
set_option Elab.async false
set_option linter.all false
set_option maxRecDepth 100000
set_option maxHeartbeats 2000000
/-! VW: where draws come from -/
namespace VI
open PySem PySem.Spec PyProof.Rows L2

/-- the well's dict -/
def wellKV (k1 k2 k3 k4 : Str) (g c : Addr) (st cnt : Int) : List (Key × V) := [(.inr k1, .ref g), (.inr k2, .ref c), (.inr k3, .int st), (.inr k4, .int cnt)]
structure WellOk (k1 k2 k3 k4 : Str) (dk g c : Addr) (cs : List Int) (st : Int) (H : Hp) : Prop where
  ex : ∃ (gs : List Int) (cnt : Int), 0 ≤ cnt ∧ gs.length ≤ 100 ∧ H dk = some (.dK (wellKV k1 k2 k3 k4 g c st cnt)) ∧ H g = some (.lst (gs.map V.int))
  cl : H c = some (.lst (cs.map V.int))
def wellW (k1 k2 k3 k4 : Str) (dk g c : Addr) (cs : List Int) (st : Int) : Wd where
  dk := dk
  ad := fun a => a = dk ∨ a = g ∨ a = c
  ok := WellOk k1 k2 k3 k4 dk g c cs st
  fr := fun H H' h ⟨⟨gs, cnt, a, a', b, d⟩, e⟩ => ⟨⟨gs, cnt, a, a', by rw [h dk (.inl rfl)]; exact b, by rw [h g (.inr (.inl rfl))]; exact d⟩, by rw [h c (.inr (.inr rfl))]; exact e⟩
  has := fun H a ⟨⟨gs, cnt, _, _, b, d⟩, e⟩ h => by
    rcases h with rfl | rfl | rfl
    · rw [b]; exact fun z => nomatch z
    · rw [d]; exact fun z => nomatch z
    · rw [e]; exact fun z => nomatch z
/-- what a draw promises -/
def drawFI : FI := ⟨[true, true], 0, fun ds post _ => ∃ n : Int, ds = [.deck, .int n] ∧ n < 1000000 ∧ ∀ i : Int, 0 ≤ i → (i < n ∨ (n < 2 ∧ i = 0)) → post (.int i)⟩
theorem stp_world {W : Wd} {P H H' : Hp} (hp : HP W P H) (ok : W.ok H') (hk : ∀ a, ¬ W.ad a → ∀ o, H a = some o → H' a = some o) : Stp W P H P H' :=
  ⟨⟨fun a o h => hk a (hp.av a (by rw [h]; exact fun z => nomatch z)) o (hp.sub a o h), hp.av, ok⟩, Ex.refl P, fun _ z => .inl z, fun a o h n => hk a n o h⟩
theorem dp_ints {K : PySem.W.Frag} {H : Hp} : ∀ ns : List Int, DpAll K H (ns.map V.int) (ns.map PyData.int)
  | [] => .nil
  | n :: ns => .cons (.int n) (dp_ints ns)
theorem shp_ints : ∀ ns : List Int, SeqAt.shaped (.list (ns.map PyData.int)) = true := by
  intro ns
  have h1 : ∀ l : List Int, PyData.canLayAll0 (l.map PyData.int) = true := fun l => by
    induction l with
    | nil => rfl
    | cons n l ih => exact ih
  have h2 : ∀ l : List Int, PyData.depthAll (l.map PyData.int) = 0 := fun l => by
    induction l with
    | nil => rfl
    | cons n l ih => show max (PyData.depth (.int n)) (PyData.depthAll (l.map PyData.int)) = 0; rw [ih]; rfl
  unfold SeqAt.shaped
  have e1 : (PyData.list (ns.map PyData.int)).canLay0 = true := h1 ns
  have e2 : (PyData.list (ns.map PyData.int)).depth = 1 := by
    show PyData.depthAll (ns.map PyData.int) + 1 = 1
    rw [h2]
  rw [e1, e2]; rfl
theorem atI_pos {α : Type} {xs : List α} {i : Int} (h0 : 0 ≤ i) (h1 : i < xs.length) : atI xs i = xs[i.toNat]? := by
  unfold atI ixN
  rw [if_pos h0, if_pos h1, Option.bind_some]
end VI
set_option Elab.async false
set_option linter.all false
set_option maxRecDepth 100000
set_option maxHeartbeats 2000000
/-! VX: a law's end, for defs that are called where no repr is under way -/
namespace VI
open PySem PySem.Spec PyProof.Rows L2
section
variable {P : Program} {w : World} {K : PySem.W.Frag} {mg mb : Str → Option Value} {k : Nat} {fa a : Addr} {fd : FuncData} {x : Str} {sp : Sp} {s : Shared} {vs : List Value} {ns : List Int} {H : Hp}
/-- the environment of the law's call, H what is tracked of the script -/
theorem env_law (KX : K.In s.heap) (hns : s.heap.Ns mainGlobals mg) (hb : s.heap.Ns builtinsNs mb) (hbb : ∀ x : Str, x ≠ "__name__" → mb x = bootBuiltins x) (hlim : s.heap.NoLimit) (hg : s.gens = #[])
    (ha : s.heap.get? a = some { cls := .type "list", data := .seq vs.toArray }) (hok : HOk P w H s.heap) (hA : ∀ b, H b ≠ none → b = a ∧ K.lookup b = none) :
    K.In (hidT s.heap H) ∧ (hidT s.heap H).Ns mainGlobals mg ∧ Env0 P w K mg (hidT s.heap H) callerA [] s H := by
  -- dicts and what K holds are not hidden
  have un : ∀ (b : Addr) (o : Obj), s.heap.get? b = some o → (∀ z n, o.data ≠ .seq z n) → H b = none := fun b o e d => by
    cases q : H b with
    | none => rfl
    | some u =>
      have y := (hA b (by rw [q]; exact fun z => nomatch z)).1
      rw [y, ha] at e
      cases e
      exact absurd rfl (d _ _)
  have dict : ∀ {b : Addr} {m : Str → Option Value}, s.heap.Ns b m → (hidT s.heap H).Ns b m := fun {b m} z => by
    obtain ⟨o, es, ep, e, d, r⟩ := z
    exact ⟨o, es, ep, hidT_get e (un b o e fun z n y => by rw [d] at y; cases y), d, r⟩
  have kin : K.In (hidT s.heap H) := fun b o e => hidT_get (KX b o e) (by
    cases q : H b with
    | none => rfl
    | some u =>
      have y := (hA b (by rw [q]; exact fun z => nomatch z)).2
      rw [e] at y; cases y)
  have lim : (hidT s.heap H).NoLimit := by
    obtain ⟨mc, h1, h2⟩ := hlim
    exact ⟨mc, dict h1, h2⟩
  exact ⟨kin, dict hns, ⟨rfl, ⟨kin, dict hns, ⟨mb, dict hb, hbb⟩, lim⟩, fun b o e => of_hidT e, Nat.le_of_eq (hidT_size _ _), trivial, (fun b z => nomatch z), hok, .of_eq hg⟩⟩
/-- the law's call -/
theorem call_law (KX : K.In s.heap) (hns : s.heap.Ns mainGlobals mg) (hb : s.heap.Ns builtinsNs mb) (hbb : ∀ x : Str, x ≠ "__name__" → mb x = bootBuiltins x) (hlim : s.heap.NoLimit) (hg : s.gens = #[])
    (ha : s.heap.get? a = some { cls := .type "list", data := .seq vs.toArray }) (hi : IntsAre vs ns) (hl : ns.length ≤ sizeLine) (hr : Room k callerA)
    (F : ∀ base : Heap, K.In base → base.Ns mainGlobals mg → FnG P w K mg base k fa fd [x] sp) (hbind : ∀ (s : Shared) (u : Value), BindsTo s fd ⟨[u], []⟩ [(x, u)])
    (hsp : ∀ H : Hp, L2.Only H → SqL K H a (ns.map V.int) → sp [.ref a] H (fun v _ => v = .bl true) fun _ _ _ => False) :
    codeAny (model P w) callerA (.call (.ref fa) ⟨[.ref a], []⟩) (fun r s' => r = .ok (.ret (.bool true)) ∧ PySem.OldK s.heap s'.heap ∧ s'.os = s.os ∧ AllBare s'.gens) s := by
  have rv := vals_ints hi
  have go : ∀ H : Hp, L2.Only H → SqL K H a (ns.map V.int) → HOk P w H s.heap → (∀ b, H b ≠ none → b = a ∧ K.lookup b = none) →
      codeAny (model P w) callerA (.call (.ref fa) ⟨[.ref a], []⟩) (fun r s' => r = .ok (.ret (.bool true)) ∧ PySem.OldK s.heap s'.heap ∧ s'.os = s.os ∧ AllBare s'.gens) s := by
    intro H only hS hok hA
    obtain ⟨kb, nb, e0⟩ := env_law KX hns hb hbb hlim hg ha hok hA
    refine codeAny_mono ((F _ kb nb).go callerA [] s H ⟨[.ref a], []⟩ [.ref a] [.ref a] _ _ rfl hr e0 (hbind s (.ref a)) (.cons rfl .nil) (hsp H only hS)) fun r s' res => ?_
    match r, res with
    | .error e, ⟨_, _, _, _, _, _, _, _, _, _, _, _, z⟩ => exact z.elim
    | .ok .next, z => exact False.elim z
    | .ok .brk, z => exact False.elim z
    | .ok .cont, z => exact False.elim z
    | .ok (.ret u), ⟨v, H', os, bare, un, hok', r', q⟩ =>
      have q' : v = .bl true := q
      subst q'
      obtain rfl : u = Value.bool true := r'
      refine ⟨rfl, PySem.OldK.of_keep fun b o e => ?_, os, bare⟩
      cases q : H b with
      | none => exact un.keep b o e q (fun z => nomatch z) (fun z => nomatch z)
      | some u =>
        rcases only b with z | ⟨ob, xs, z⟩
        · rw [q] at z; cases z
        · have y1 := (hok b _ z).1
          have y2 := (hok' b _ (un.frzs b ob _ z)).1
          rw [e] at y1
          cases y1
          exact y2
  cases hk : K.lookup a with
  | some o =>
    have e := KX a o hk
    rw [ha] at e
    cases e
    have none_ : ∀ b, (fun _ : Addr => (none : Option HO)) b = none := fun _ => rfl
    exact go (fun _ => none) (fun _ => .inl rfl) (.inr ⟨_, vs.toArray, _, hk, rfl, rfl, rfl, by rw [List.size_toArray, hi.length]; exact hl, by simpa using rv⟩) (fun b u z => nomatch z) fun b z => absurd rfl z
  | none =>
    have at_ : ∀ b, b ≠ a → (fun b => if b = a then some (HO.frz { cls := .type "list", data := .seq vs.toArray } (.lst (ns.map V.int))) else none) b = none := fun b h => if_neg h
    refine go (fun b => if b = a then some (HO.frz { cls := .type "list", data := .seq vs.toArray } (.lst (ns.map V.int))) else none) (fun b => ?_) (.inl (.inr ⟨_, if_pos rfl⟩)) (fun b u z => ?_) fun b z => ?_
    · by_cases h : b = a
      · exact .inr ⟨_, _, if_pos h⟩
      · exact .inl (at_ b h)
    · by_cases h : b = a
      · subst h
        have z' := (if_pos rfl).symm.trans z
        cases z'
        exact ⟨ha, by rw [List.length_map]; exact hl, vs, _, rv, ha⟩
      · have y := at_ b h
        rw [y] at z; cases z
    · by_cases h : b = a
      · exact ⟨h, by rw [h]; exact hk⟩
      · exact absurd (at_ b h) z
end
/-- the goal that the head leaves -/
theorem walk_G {l : PySem.W.OpenLaw} {n k : Nat} {q : Program} {loose : List Str} {XP : (Str → Option Value) → Heap → Prop} {YP : World → Heap → Prop} {d : DefRec} {x : Str} (hn : l.most = some n) (hn2 : n ≤ sizeLine) (hdf : d.params.defaults = []) (hr : Room k callerA)
    (F : ∀ (w : World) (mg : Str → Option Value) (fa : Addr) (h : Heap), YP w h → h.Ns mainGlobals mg → mg d.name = some (.ref fa) → ∃ (K : PySem.W.Frag) (fd : FuncData) (sp : Sp), K.In h ∧ (∀ (s : Shared) (u : Value), BindsTo s fd ⟨[u], []⟩ [(x, u)]) ∧
      (∀ (H : Hp) (a : Addr) (ns : List Int), ns.length ≤ n → L2.Only H → SqL K H a (ns.map V.int) → sp [.ref a] H (fun v _ => v = .bl true) fun _ _ _ => False) ∧ ∀ base : Heap, K.In base → base.Ns mainGlobals mg → FnG l.prog w K mg base k fa fd [x] sp) :
    PySem.W.WalkO q loose XP YP l.row.toRowW d [] (fun f vs => PySem.call f vs) := by
  refine Att.attach_call hn hdf fun w s0 s1 mg mb fa o pm cd doc a vs ns G Y ho hd hcd hmg hobj hints hlen hg => ?_
  obtain ⟨K, fd, sp, KX, hb, hsp, hF⟩ := F w mg fa _ Y G.T.g hmg
  exact call_law KX G.T.g G.T.b G.T.builtins G.T.nolimit hg hobj hints (Nat.le_trans hlen hn2) hr hF hb fun H hO hS => hsp H a ns hlen hO hS
end VI
set_option Elab.async false
set_option linter.all false
set_option maxRecDepth 100000
set_option maxHeartbeats 2000000
/-! VY: loops and comprehensions on data -/
namespace VI
open PySem PySem.Spec PyProof.Rows L2

/-- a comprehension that is a filter and a map -/
theorem goLc_fun {bind : D → Option Env} {cond : Env → (Bool → Prop) → Prop} {elt : Env → (D → Prop) → Prop} (c : D → Bool) (f : D → D) : ∀ (ds acc : List D) (post : List D → Prop),
    (∀ d ∈ ds, ∃ env, bind d = some env ∧ (∀ p : Bool → Prop, p (c d) → cond env p) ∧ (c d = true → ∀ p : D → Prop, p (f d) → elt env p)) → post (acc ++ (ds.filter c).map f) → goLc bind cond elt ds acc post
  | [], acc, post, _, hp => by
    simpa [goLc] using hp
  | d :: ds, acc, post, h, hp => by
    obtain ⟨env, h1, h2, h3⟩ := h d List.mem_cons_self
    refine ⟨env, h1, h2 _ ?_⟩
    cases hc : c d with
    | true =>
      rw [if_pos rfl]
      refine h3 hc _ (goLc_fun c f ds _ post (fun e he => h e (List.mem_cons_of_mem _ he)) ?_)
      rw [List.append_assoc]
      rw [List.filter_cons, if_pos hc, List.map_cons] at hp
      exact hp
    | false =>
      rw [if_neg Bool.false_ne_true]
      refine goLc_fun c f ds _ post (fun e he => h e (List.mem_cons_of_mem _ he)) ?_
      rw [List.filter_cons, if_neg (by rw [hc]; exact Bool.false_ne_true)] at hp
      exact hp
/-- a map whose values are told by a relation -/
theorem goLc_rel {bind : D → Option Env} {cond : Env → (Bool → Prop) → Prop} {elt : Env → (D → Prop) → Prop} (R : D → D → Prop) : ∀ (ds acc : List D) (post : List D → Prop),
    (∀ d ∈ ds, ∃ env, bind d = some env ∧ (∀ p : Bool → Prop, p true → cond env p) ∧ ∀ p : D → Prop, (∀ y, R d y → p y) → elt env p) → (∀ ys, Paired R ds ys → post (acc ++ ys)) → goLc bind cond elt ds acc post
  | [], acc, post, _, hp => by
    have := hp [] .nil
    rw [List.append_nil] at this
    exact this
  | d :: ds, acc, post, h, hp => by
    obtain ⟨env, h1, h2, h3⟩ := h d List.mem_cons_self
    refine ⟨env, h1, h2 _ ?_⟩
    rw [if_pos rfl]
    refine h3 _ fun y hy => goLc_rel R ds _ post (fun e he => h e (List.mem_cons_of_mem _ he)) fun ys hys => ?_
    have := hp (y :: ys) (.cons hy hys)
    rw [List.append_assoc]
    exact this
/-- a for loop by an invariant -/
theorem goF_inv {bind : D → Env → Option Env} {body : Env → En → Prop} (I : Nat → Env → Prop) : ∀ (ds : List D) (k : Nat) (env : Env) (E : En), I k env →
    (∀ (i : Nat) d env, ds[i]? = some d → I (k + i) env → ∃ env', bind d env = some env' ∧ ∀ E' : En, (∀ e, I (k + i + 1) e → E'.nx e) → (∀ e, I (k + i + 1) e → E'.ct e) → E'.rt = E.rt → E'.ex = E.ex → E'.bk = E.nx → body env' E') →
    (∀ env, I (k + ds.length) env → E.nx env) → goF bind body ds env E
  | [], k, env, E, h0, _, hd => hd env h0
  | d :: ds, k, env, E, h0, hs, hd => by
    obtain ⟨env', h1, h2⟩ := hs 0 d env rfl h0
    have rec_ : ∀ e, I (k + 0 + 1) e → goF bind body ds e E := fun e he => goF_inv I ds (k + 1) e E he (fun i d env hi hI => by
      have e1 : k + 1 + i = k + (i + 1) := by omega
      rw [e1] at hI ⊢
      exact hs (i + 1) d env hi hI) fun env h => hd env (by rw [List.length_cons]; have e1 : k + 1 + ds.length = k + (ds.length + 1) := by omega
                                                            rw [e1] at h; exact h)
    exact ⟨env', h1, h2 _ rec_ rec_ rfl rfl rfl⟩
end VI
set_option Elab.async false
set_option linter.all false
set_option maxRecDepth 100000
set_option maxHeartbeats 2000000
/-! VZ: small numbers, tuples and lists of these, as data -/
namespace VI
open PySem PySem.Spec PyProof.Rows L2
def nD (n : Nat) : D := .int n
/-- a tuple, a list of numbers -/
def tD (l : List Nat) : D := .tup (l.map nD)
def lD (l : List Nat) : D := .lst (l.map nD)
/-- a tuple of tuples, a list of tuples -/
def ttD (rs : List (List Nat)) : D := .tup (rs.map tD)
def ltD (rs : List (List Nat)) : D := .lst (rs.map tD)
theorem eqD_nat (a b : Nat) : eqD (nD a) (nD b) = decide (a = b) := by
  show ((a : Int) == (b : Int)) = _
  rw [Bool.eq_iff_iff, decide_eq_true_eq, beq_iff_eq]
  exact Int.ofNat_inj
theorem eqvAll_map {α : Type} {e : α → D} (he : ∀ a b, eqD (e a) (e b) = true ↔ a = b) : ∀ xs ys : List α, PyData.eqvAll (pys (xs.map e)) (pys (ys.map e)) = true ↔ xs = ys
  | [], [] => by simp [pys, PyData.eqvAll]
  | [], _ :: _ => by simp [pys, PyData.eqvAll]
  | _ :: _, [] => by simp [pys, PyData.eqvAll]
  | x :: xs, y :: ys => by
    show (eqD (e x) (e y) && PyData.eqvAll (pys (xs.map e)) (pys (ys.map e))) = true ↔ _
    rw [Bool.and_eq_true, he x y, eqvAll_map he xs ys, List.cons.injEq]
theorem eqD_t (a b : List Nat) : eqD (tD a) (tD b) = decide (a = b) := by
  rw [Bool.eq_iff_iff, decide_eq_true_eq]
  exact eqvAll_map (e := nD) (fun a b => by rw [eqD_nat, decide_eq_true_eq]) a b
theorem eqD_l (a b : List Nat) : eqD (lD a) (lD b) = decide (a = b) := by
  rw [Bool.eq_iff_iff, decide_eq_true_eq]
  exact eqvAll_map (e := nD) (fun a b => by rw [eqD_nat, decide_eq_true_eq]) a b
theorem eqD_lt (a b : List (List Nat)) : eqD (ltD a) (ltD b) = decide (a = b) := by
  rw [Bool.eq_iff_iff, decide_eq_true_eq]
  exact eqvAll_map (e := tD) (fun a b => by rw [eqD_t, decide_eq_true_eq]) a b
theorem any_nat (l : List Nat) (x : Nat) : ((l.map nD).any fun z => eqD z (nD x)) = decide (x ∈ l) := by
  rw [Bool.eq_iff_iff, List.any_eq_true, decide_eq_true_eq]
  constructor
  · rintro ⟨d, hd, e⟩
    obtain ⟨y, hy, rfl⟩ := List.mem_map.mp hd
    rw [eqD_nat, decide_eq_true_eq] at e
    exact e ▸ hy
  · exact fun h => ⟨nD x, List.mem_map.mpr ⟨x, h, rfl⟩, by rw [eqD_nat, decide_eq_true_eq]⟩
theorem any_t (l : List (List Nat)) (x : List Nat) : ((l.map tD).any fun z => eqD z (tD x)) = decide (x ∈ l) := by
  rw [Bool.eq_iff_iff, List.any_eq_true, decide_eq_true_eq]
  constructor
  · rintro ⟨d, hd, e⟩
    obtain ⟨y, hy, rfl⟩ := List.mem_map.mp hd
    rw [eqD_t, decide_eq_true_eq] at e
    exact e ▸ hy
  · exact fun h => ⟨tD x, List.mem_map.mpr ⟨x, h, rfl⟩, by rw [eqD_t, decide_eq_true_eq]⟩
/-- sizes -/
def okL (l : List Nat) : Prop := l.length ≤ 12 ∧ ∀ x ∈ l, x < 1000
def okR (rs : List (List Nat)) : Prop := rs.length ≤ 200 ∧ ∀ l ∈ rs, okL l
theorem bd_n {ms : List Nat} {x : Nat} (h : x < 1000) : Bd ms (nD x) := by
  have : (x : Int).natAbs < 10 ^ 12 := by rw [Int.natAbs_natCast]; omega
  cases ms <;> exact this
theorem bd_t {l : List Nat} (h : okL l) : Bd [12] (tD l) := by
  refine ⟨by rw [List.length_map]; exact h.1, fun d hd => ?_⟩
  obtain ⟨x, hx, rfl⟩ := List.mem_map.mp hd
  exact bd_n (h.2 x hx)
theorem bd_l {l : List Nat} (h : okL l) : Bd [12] (lD l) := by
  refine ⟨by rw [List.length_map]; exact h.1, fun d hd => ?_⟩
  obtain ⟨x, hx, rfl⟩ := List.mem_map.mp hd
  exact bd_n (h.2 x hx)
theorem bd_tt {l : List (List Nat)} (h : okR l) : Bd [200, 12] (ttD l) := by
  refine ⟨by rw [List.length_map]; exact h.1, fun d hd => ?_⟩
  obtain ⟨x, hx, rfl⟩ := List.mem_map.mp hd
  exact bd_t (h.2 x hx)
theorem bd_lt {l : List (List Nat)} (h : okR l) : Bd [200, 12] (ltD l) := by
  refine ⟨by rw [List.length_map]; exact h.1, fun d hd => ?_⟩
  obtain ⟨x, hx, rfl⟩ := List.mem_map.mp hd
  exact bd_t (h.2 x hx)
theorem fit_n {x : Nat} (h : x < 1000) : Fit (nD x) := ⟨[], bd_n h, by decide, by decide⟩
theorem fit_t {l : List Nat} (h : okL l) : Fit (tD l) := ⟨[12], bd_t h, by decide, by decide⟩
theorem fit_l {l : List Nat} (h : okL l) : Fit (lD l) := ⟨[12], bd_l h, by decide, by decide⟩
theorem fit_tt {l : List (List Nat)} (h : okR l) : Fit (ttD l) := ⟨[200, 12], bd_tt h, by decide, by decide⟩
theorem fit_lt {l : List (List Nat)} (h : okR l) : Fit (ltD l) := ⟨[200, 12], bd_lt h, by decide, by decide⟩
theorem okL_nil : okL [] := ⟨by decide, fun x h => nomatch h⟩
theorem atI_last {α : Type} {xs : List α} {x : α} : atI (xs ++ [x]) (-1) = some x := by
  unfold atI ixN
  rw [if_neg (by decide), if_pos (by rw [List.length_append, List.length_singleton]; omega), Option.bind_some]
  have e : ((-1 : Int) + ((xs ++ [x]).length : Nat)).toNat = xs.length := by rw [List.length_append, List.length_singleton]; omega
  rw [e, List.getElem?_append_right (Nat.le_refl _), Nat.sub_self]; rfl
theorem atI_zero {α : Type} {xs : List α} {x : α} : atI (x :: xs) 0 = some x := by
  unfold atI ixN
  rw [if_pos (by decide), if_pos (by rw [List.length_cons]; omega), Option.bind_some]; rfl
theorem atI_nat {α : Type} {xs : List α} {i : Nat} (h : i < xs.length) : atI xs (i : Nat) = xs[i]? := by
  rw [atI_pos (by omega) (by omega), Int.toNat_natCast]
theorem line_of' {n : Nat} (h : n ≤ 10000000) : n ≤ sizeLine := by rw [sizeLine_eq]; omega
end VI
set_option Elab.async false
set_option linter.all false
set_option maxRecDepth 100000
set_option maxHeartbeats 2000000
/-! VSO: sorts on data, in plain words -/
namespace VI
open PySem PySem.Spec PyProof.Rows L2
def zs (l : List Nat) : List Int := l.map fun (n : Nat) => (n : Int)
theorem zs_inj {a b : List Nat} (h : zs a = zs b) : a = b := by
  unfold zs at h
  exact (List.map_inj_right (fun x y h => Int.ofNat_inj.mp h)).mp h
def leN (a b : Nat) : Bool := decide ((a : Int) ≤ b)
def leT (a b : List Nat) : Bool := !decide (zs b < zs a)
/-- by how many, then in order -/
def rk (a b : List Nat) : Bool := if a.length = b.length then leT a b else decide ((a.length : Int) ≤ b.length)
theorem py_t (l : List Nat) : py (tD l) = .tuple ((zs l).map .int) := by
  show PyData.tuple (pys (l.map nD)) = _
  rw [pys_map, List.map_map]
  unfold zs
  rw [List.map_map]; rfl
theorem lt_t (a b : List Nat) : PySem.W.dataLt (py (tD a)) (py (tD b)) = decide (zs a < zs b) := by
  rw [py_t, py_t, PySem.W.dataLt_tuple]
  exact PySem.W.dataLt_ints (zs a) (zs b)
theorem alike_ints : ∀ a b : List Int, PySem.W.alikeAll (a.map .int) (b.map .int) = true
  | [], _ => by simp [PySem.W.alikeAll]
  | _ :: _, [] => by simp [PySem.W.alikeAll]
  | x :: a, y :: b => by
    show (PySem.W.alike (.int x) (.int y) && PySem.W.alikeAll (a.map .int) (b.map .int)) = true
    rw [alike_ints a b]; rfl
theorem alike_t (a b : List Nat) : PySem.W.alike (py (tD a)) (py (tD b)) = true := by
  rw [py_t, py_t]
  exact alike_ints _ _
theorem rank_le (a b : List Nat) : PySem.W.dataLe false rankD (tD a) (tD b) = rk a b := by
  rw [PySem.W.dataLe_eq]
  show (!PySem.W.dataLt (rankD (tD b)) (rankD (tD a))) = rk a b
  unfold rankD
  rw [PySem.W.dataLt_pair (by rfl) (alike_t b a), lt_t]
  have la : lenD (tD a) = a.length := List.length_map _
  have lb : lenD (tD b) = b.length := List.length_map _
  rw [la, lb]
  have e1 : PyData.eqv (.int (b.length : Nat)) (.int (a.length : Nat)) = decide (a.length = b.length) := by
    show ((b.length : Int) == (a.length : Int)) = _
    rw [Bool.eq_iff_iff, beq_iff_eq, decide_eq_true_eq]
    omega
  have e2 : PyData.eqv (py (tD b)) (py (tD a)) = decide (b = a) := eqD_t b a
  rw [e1, e2, PySem.W.dataLt_int]
  unfold rk leT
  by_cases h : a.length = b.length
  · rw [if_pos h, if_pos (decide_eq_true h)]
    by_cases e : b = a
    · subst e
      rw [if_pos (decide_eq_true rfl)]
      have : ¬ zs b < zs b := fun z => List.lt_irrefl _ z
      rw [decide_eq_false this]
    · rw [if_neg (by rw [decide_eq_true_eq]; exact e)]
  · rw [if_neg h, if_neg (by rw [decide_eq_true_eq]; exact h)]
    rw [Bool.eq_iff_iff, Bool.not_eq_true', decide_eq_false_iff_not, decide_eq_true_eq]
    omega
theorem sort_rank (ls : List (List Nat)) : (ls.map tD).mergeSort (PySem.W.dataLe false rankD) = (ls.mergeSort rk).map tD := by
  rw [List.map_mergeSort (s := PySem.W.dataLe false rankD)]
  intro a _ b _
  exact (rank_le a b).symm
theorem sort_n (l : List Nat) : sortD (l.map nD) = (l.mergeSort leN).map nD := by
  unfold sortD
  rw [List.map_mergeSort (s := PySem.W.dataLe false py)]
  intro a _ b _
  have : PySem.W.dataLe false py (nD a) (nD b) = leN a b := by
    rw [PySem.W.dataLe_eq]
    show (!PySem.W.dataLt (.int (b : Int)) (.int (a : Int))) = _
    rw [PySem.W.dataLt_int]
    unfold leN
    rw [Bool.eq_iff_iff, Bool.not_eq_true', decide_eq_false_iff_not, decide_eq_true_eq]
    omega
  exact this.symm
theorem sort_t (ls : List (List Nat)) : sortD (ls.map tD) = (ls.mergeSort leT).map tD := by
  unfold sortD
  rw [List.map_mergeSort (s := PySem.W.dataLe false py)]
  intro a _ b _
  have : PySem.W.dataLe false py (tD a) (tD b) = leT a b := by
    rw [PySem.W.dataLe_eq]
    show (!PySem.W.dataLt (py (tD b)) (py (tD a))) = _
    rw [lt_t]; rfl
  exact this.symm
/-! the orders are orders -/
theorem leT_total (a b : List Nat) : (leT a b || leT b a) = true := by
  unfold leT
  rw [Bool.or_eq_true, Bool.not_eq_true', Bool.not_eq_true', decide_eq_false_iff_not, decide_eq_false_iff_not]
  exact List.le_total (zs a) (zs b)
theorem leT_trans (a b c : List Nat) (h1 : leT a b = true) (h2 : leT b c = true) : leT a c = true := by
  unfold leT at *
  rw [Bool.not_eq_true', decide_eq_false_iff_not] at *
  exact List.le_trans (l₁ := zs a) (l₂ := zs b) (l₃ := zs c) h1 h2
theorem leT_anti {a b : List Nat} (h1 : leT a b = true) (h2 : leT b a = true) : a = b := by
  unfold leT at *
  rw [Bool.not_eq_true', decide_eq_false_iff_not] at *
  exact zs_inj (List.le_antisymm (as := zs a) (bs := zs b) h1 h2)
theorem rk_total (a b : List Nat) : (rk a b || rk b a) = true := by
  unfold rk
  by_cases h : a.length = b.length
  · rw [if_pos h, if_pos h.symm]; exact leT_total a b
  · rw [if_neg h, if_neg (Ne.symm h), Bool.or_eq_true, decide_eq_true_eq, decide_eq_true_eq]; omega
theorem rk_trans (a b c : List Nat) (h1 : rk a b = true) (h2 : rk b c = true) : rk a c = true := by
  unfold rk at *
  by_cases h : a.length = b.length
  · rw [if_pos h] at h1
    by_cases h' : b.length = c.length
    · rw [if_pos h'] at h2
      rw [if_pos (h.trans h')]
      exact leT_trans a b c h1 h2
    · rw [if_neg h', decide_eq_true_eq] at h2
      rw [if_neg (by omega), decide_eq_true_eq]; omega
  · rw [if_neg h, decide_eq_true_eq] at h1
    by_cases h' : b.length = c.length
    · rw [if_neg (by omega), decide_eq_true_eq]; omega
    · rw [if_neg h', decide_eq_true_eq] at h2
      rw [if_neg (by omega), decide_eq_true_eq]; omega
theorem rk_anti {a b : List Nat} (h1 : rk a b = true) (h2 : rk b a = true) : a = b := by
  unfold rk at *
  by_cases h : a.length = b.length
  · rw [if_pos h] at h1
    rw [if_pos h.symm] at h2
    exact leT_anti h1 h2
  · rw [if_neg h, decide_eq_true_eq] at h1
    rw [if_neg (Ne.symm h), decide_eq_true_eq] at h2
    omega
/-- two lists with the same items, sorted -/
theorem sort_perm {α : Type} {le : α → α → Bool} (tr : ∀ a b c, le a b = true → le b c = true → le a c = true) (to : ∀ a b, (le a b || le b a) = true) (an : ∀ a b, le a b = true → le b a = true → a = b) {l m : List α} (h : l.Perm m) : l.mergeSort le = m.mergeSort le := by
  refine List.Perm.eq_of_pairwise (le := fun a b => le a b = true) (fun a b _ _ h1 h2 => an a b h1 h2) (List.pairwise_mergeSort tr to l) (List.pairwise_mergeSort tr to m) ?_
  exact (List.mergeSort_perm l le).trans (h.trans (List.mergeSort_perm m le).symm)
end VI
set_option Elab.async false
set_option linter.all false
set_option maxRecDepth 100000
set_option maxHeartbeats 2000000
/-! VKB: calls with keywords, no defaults -/
namespace VI
open PySem PySem.Spec PyProof.Rows L2
theorem vals_app : ∀ {vs zs : List V} {us ws : List Value}, Vals vs us → Vals zs ws → Vals (vs ++ zs) (us ++ ws)
  | _, _, _, _, .nil, r => r
  | _, _, _, _, .cons a t, r => .cons a (vals_app t r)
theorem vals_getD : ∀ {vs : List V} {us : List Value} (i : Nat), Vals vs us → RelV (vs.getD i V.non) (us.getD i Value.none)
  | _, _, _, .nil => by simp; rfl
  | _, _, 0, .cons a _ => by simpa using a
  | _, _, i + 1, .cons _ t => by simpa using vals_getD i t
theorem vals_pm {vs zs : List V} {us ws : List Value} (r1 : Vals vs us) (r2 : Vals zs ws) : ∀ pm : List Nat, Vals (pm.map fun i => (vs ++ zs).getD i V.non) (pm.map fun i => (us ++ ws).getD i Value.none)
  | [] => .nil
  | i :: pm => .cons (vals_getD i (vals_app r1 r2)) (vals_pm r1 r2 pm)
theorem kbn_of {K : PySem.W.Frag} {x qual : Str} {params : Arguments} {body : List Stmt} {scope : Scope} {f : Addr} {fd : FuncData} {ps ks : List Str} {n : Nat} {pm : List Nat} (F : FunD K x qual params body scope [] [] f fd)
    (h : ∀ (kV doc pm' : Value) (an : Option Addr) (cdv ct : Value) (us ws : List Value), us.length = n → ws.length = ks.length → bindArgs (PySem.W.fnOf x qual params body scope .none kV doc pm' an cdv ct) ⟨us, ks.zip ws⟩ = pure (ps.zip (pm.map fun i => (us ++ ws).getD i Value.none))) :
    KBn K fd ps n ks (fun us ws => pm.map fun i => (us ++ ws).getD i Value.none) (fun vs zs => pm.map fun i => (vs ++ zs).getD i V.non) := by
  obtain ⟨oc, od, dV, kV, doc, pm', an, cdv, ct, osl, rfl, lk, hcd, hD, hK⟩ := F.ex
  rcases hD with ⟨_, rfl⟩ | ⟨e, _⟩
  · exact ⟨fun s us ws _ l1 l2 => .of_eq (h kV doc pm' an cdv ct us ws l1 l2), fun r1 r2 => vals_pm r1 r2 pm⟩
  · exact absurd rfl e
theorem ks_lt {ks : List (Nat × Nat × List Str × List Nat)} {j : Nat} (h : (ks.all fun k => decide (k.1 ≠ j)) = true) : ∀ (c : Nat) f n nms pm, ks[c]? = some (f, n, nms, pm) → f ≠ j := fun c f n nms pm e =>
  of_decide_eq_true (List.all_eq_true.mp h _ (List.mem_of_getElem? e))
end VI
set_option Elab.async false
set_option linter.all false
set_option maxRecDepth 100000
set_option maxHeartbeats 0
namespace K84
open PySem PySem.Spec PyProof.Rows L2 VI
def top (i : Nat) : Stmt := PySem.Challenge.pw_piecetrees_k84_rows_put_to_and_told_othe.main.body.getD i (.Pass ⟨0, 0, 0, 0⟩)
def fsA : List (PySem.Str × List Bool × Nat) := [("_lot_key", [true], 0), ("is_stretch", [true, false], 0), ("stretches", [true, true], 0), ("_law_well", [true], 0), ("_law_draw", [true, true], 0), ("_law_pick", [true, false], 0), ("_law_mixed", [true, false], 0), ("_law_rank", [true], 0), ("_law_rows", [true, true, false], 0), ("_law_is_run", [true, false], 0), ("_law_subsets", [true], 0), ("_law_due", [false, true], 0), ("_law_without", [false, false], 0), ("_law_is_same", [true, true, false, true], 0), ("_law_is_renamed", [true, true, false, false], 0), ("_law_is_fewer", [true, true, false, false], 0), ("_law_is_right", [true, true, true], 0), ("law", [true], 0)]
abbrev st__lot_key : Stmt := top 1
def N__lot_key : List PySem.Str := ["lot"]
def ks__lot_key : List (Nat × Nat × List PySem.Str × List Nat) := []
def ky__lot_key : List Nat := []
theorem sc__lot_key : FnScope N__lot_key ["lot"] (defScope st__lot_key) := ⟨rfl, rfl, rfl, by decide +kernel, rfl, by decide +kernel, by decide +kernel⟩
def cb__lot_key : CB := (.cons (.ret (.tup (.cons (.blt .len (.cons (.var 0) .nil)) (.cons (.var 0) .nil)))) .nil)
theorem ck__lot_key : chkB cb__lot_key (baseC N__lot_key (defScope st__lot_key) (fsA.take 0) ks__lot_key ky__lot_key) ([true].map (!·)) (List.replicate N__lot_key.length false) [] (defBody st__lot_key) = true := by kernel_rfl
abbrev st_is_stretch : Stmt := top 2
def N_is_stretch : List PySem.Str := ["rows", "lot", "row", "places", "at", "thing"]
def ks_is_stretch : List (Nat × Nat × List PySem.Str × List Nat) := []
def ky_is_stretch : List Nat := [0]
theorem sc_is_stretch : FnScope N_is_stretch ["rows", "lot"] (defScope st_is_stretch) := ⟨rfl, rfl, rfl, by decide +kernel, rfl, by decide +kernel, by decide +kernel⟩
def cb_is_stretch : CB := (.cons (.if_ (.cmp .Eq (.var 1) (.tup .nil)) (.cons (.ret (.bl false)) .nil) .nil) (.cons (.for_ .seq (.cons (.var 0) .nil) (.one 2) (.cons (.asg false 3 (.lc .enum (.cons (.var 2) .nil) (.many [4, 5]) (.cons (.cmp .In (.var 5) (.var 1)) .nil) (.var 4))) (.cons (.if_ (.cmp .NotEq (.bin .Add (.bin .Sub (.ix (.var 3) (.neg (.int 1))) (.ix (.var 3) (.int 0))) (.int 1)) (.blt .len (.cons (.var 1) .nil))) (.cons (.ret (.bl false)) .nil) .nil) .nil))) (.cons (.ret (.bl true)) .nil)))
theorem ck_is_stretch : chkB cb_is_stretch (baseC N_is_stretch (defScope st_is_stretch) (fsA.take 1) ks_is_stretch ky_is_stretch) ([true, false].map (!·)) (List.replicate N_is_stretch.length false) [] (defBody st_is_stretch) = true := by kernel_rfl
abbrev st_stretches : Stmt := top 3
def N_stretches : List PySem.Str := ["size", "rows", "found", "begin", "end", "lot"]
def ks_stretches : List (Nat × Nat × List PySem.Str × List Nat) := [(1, 0, ["lot", "rows"], [1, 0])]
def ky_stretches : List Nat := [0]
theorem sc_stretches : FnScope N_stretches ["size", "rows"] (defScope st_stretches) := ⟨rfl, rfl, rfl, by decide +kernel, rfl, by decide +kernel, by decide +kernel⟩
def cb_stretches : CB := (.cons (.asg true 2 (.lst .nil)) (.cons (.for_ .rng1 (.cons (.var 0) .nil) (.one 3) (.cons (.for_ .rng2 (.cons (.bin .Add (.var 3) (.int 1)) (.cons (.bin .Add (.var 0) (.int 1)) .nil)) (.one 4) (.cons (.asg false 5 (.blt .tuple (.cons (.blt .sorted (.cons (.sl false (.ix (.var 1) (.int 0)) (.var 3) (.var 4)) .nil)) .nil))) (.cons (.if_ (.call 1 (.cons (.var 1) (.cons (.var 5) .nil))) (.cons (.app 2 (.var 5)) .nil) .nil) .nil))) .nil)) (.cons (.ret (.blt .tuple (.cons (.sortK (.var 2) 0) .nil))) .nil)))
theorem ck_stretches : chkB cb_stretches (baseC N_stretches (defScope st_stretches) (fsA.take 2) ks_stretches ky_stretches) ([true, true].map (!·)) (List.replicate N_stretches.length false) [] (defBody st_stretches) = true := by kernel_rfl
abbrev st__law_well : Stmt := top 5
def N__law_well : List PySem.Str := ["_law_script", "_law_cells", "_law_stirred", "_law_cell", "_law_great"]
def ks__law_well : List (Nat × Nat × List PySem.Str × List Nat) := [(1, 0, ["lot", "rows"], [1, 0]), (2, 0, ["rows", "size"], [1, 0])]
def ky__law_well : List Nat := [0]
theorem sc__law_well : FnScope N__law_well ["_law_script"] (defScope st__law_well) := ⟨rfl, rfl, rfl, by decide +kernel, rfl, by decide +kernel, by decide +kernel⟩
-- _law_well: by hand (dict)
abbrev st__law_draw : Stmt := top 6
def N__law_draw : List PySem.Str := ["_law_well_here", "_law_many", "_law_great", "_law_count", "_law_cell", "_law_mixed_here"]
def ks__law_draw : List (Nat × Nat × List PySem.Str × List Nat) := [(1, 0, ["lot", "rows"], [1, 0]), (2, 0, ["rows", "size"], [1, 0])]
def ky__law_draw : List Nat := [0]
theorem sc__law_draw : FnScope N__law_draw ["_law_well_here", "_law_many"] (defScope st__law_draw) := ⟨rfl, rfl, rfl, by decide +kernel, rfl, by decide +kernel, by decide +kernel⟩
-- _law_draw: by hand (method Attribute(value=Name(id='_law_great', ctx=Load()), attr='pop)
abbrev st__law_pick : Stmt := top 7
def N__law_pick : List PySem.Str := ["_law_well_here", "_law_items"]
def ks__law_pick : List (Nat × Nat × List PySem.Str × List Nat) := [(1, 0, ["lot", "rows"], [1, 0]), (2, 0, ["rows", "size"], [1, 0])]
def ky__law_pick : List Nat := [0]
theorem sc__law_pick : FnScope N__law_pick ["_law_well_here", "_law_items"] (defScope st__law_pick) := ⟨rfl, rfl, rfl, by decide +kernel, rfl, by decide +kernel, by decide +kernel⟩
def cb__law_pick : CB := (.cons (.ret (.ix (.var 1) (.call 4 (.cons (.var 0) (.cons (.blt .len (.cons (.var 1) .nil)) .nil))))) .nil)
theorem ck__law_pick : chkB cb__law_pick (baseC N__law_pick (defScope st__law_pick) (fsA.take 5) ks__law_pick ky__law_pick) ([true, false].map (!·)) (List.replicate N__law_pick.length false) [] (defBody st__law_pick) = true := by kernel_rfl
abbrev st__law_mixed : Stmt := top 8
def N__law_mixed : List PySem.Str := ["_law_well_here", "_law_items", "_law_turn", "_law_left", "_law_found"]
def ks__law_mixed : List (Nat × Nat × List PySem.Str × List Nat) := [(1, 0, ["lot", "rows"], [1, 0]), (2, 0, ["rows", "size"], [1, 0])]
def ky__law_mixed : List Nat := [0]
theorem sc__law_mixed : FnScope N__law_mixed ["_law_well_here", "_law_items"] (defScope st__law_mixed) := ⟨rfl, rfl, rfl, by decide +kernel, rfl, by decide +kernel, by decide +kernel⟩
def cb__law_mixed : CB := (.cons (.par2 true true 3 4 (.blt .list (.cons (.var 1) .nil)) (.lst .nil)) (.cons (.for_ .rng1 (.cons (.blt .len (.cons (.var 1) .nil)) .nil) (.one 2) (.cons (.appPop 4 3 (.call 4 (.cons (.var 0) (.cons (.blt .len (.cons (.var 3) .nil)) .nil)))) .nil)) (.cons (.frz [4]) (.cons (.ret (.var 4)) .nil))))
theorem ck__law_mixed : chkB cb__law_mixed (baseC N__law_mixed (defScope st__law_mixed) (fsA.take 6) ks__law_mixed ky__law_mixed) ([true, false].map (!·)) (List.replicate N__law_mixed.length false) [] (defBody st__law_mixed) = true := by kernel_rfl
abbrev st__law_rank : Stmt := top 9
def N__law_rank : List PySem.Str := ["_law_lot"]
def ks__law_rank : List (Nat × Nat × List PySem.Str × List Nat) := [(1, 0, ["lot", "rows"], [1, 0]), (2, 0, ["rows", "size"], [1, 0])]
def ky__law_rank : List Nat := [0]
theorem sc__law_rank : FnScope N__law_rank ["_law_lot"] (defScope st__law_rank) := ⟨rfl, rfl, rfl, by decide +kernel, rfl, by decide +kernel, by decide +kernel⟩
def cb__law_rank : CB := (.cons (.ret (.tup (.cons (.blt .len (.cons (.var 0) .nil)) (.cons (.var 0) .nil)))) .nil)
theorem ck__law_rank : chkB cb__law_rank (baseC N__law_rank (defScope st__law_rank) (fsA.take 7) ks__law_rank ky__law_rank) ([true].map (!·)) (List.replicate N__law_rank.length false) [] (defBody st__law_rank) = true := by kernel_rfl
abbrev st__law_rows : Stmt := top 10
def N__law_rows : List PySem.Str := ["_law_well_here", "_law_size", "_law_many", "_law_found", "_law_turn", "_law_row", "_law_step", "_law_begin", "_law_end"]
def ks__law_rows : List (Nat × Nat × List PySem.Str × List Nat) := [(1, 0, ["lot", "rows"], [1, 0]), (2, 0, ["rows", "size"], [1, 0])]
def ky__law_rows : List Nat := [7, 0]
theorem sc__law_rows : FnScope N__law_rows ["_law_well_here", "_law_size", "_law_many"] (defScope st__law_rows) := ⟨rfl, rfl, rfl, by decide +kernel, rfl, by decide +kernel, by decide +kernel⟩
def cb__law_rows : CB := (.cons (.asg true 3 (.lst (.cons (.blt .tuple (.cons (.call 6 (.cons (.var 0) (.cons (.rng1 false (.var 1)) .nil))) .nil)) .nil))) (.cons (.for_ .rng1 (.cons (.bin .Sub (.var 2) (.int 1)) .nil) (.one 4) (.cons (.asg false 5 (.blt .list (.cons (.call 5 (.cons (.var 0) (.cons (.var 3) .nil))) .nil))) (.cons (.for_ .rng1 (.cons (.call 5 (.cons (.var 0) (.cons (.lst (.cons (.int 0) (.cons (.int 1) (.cons (.int 1) (.cons (.int 2) (.cons (.int 3) .nil)))))) .nil))) .nil) (.one 6) (.cons (.asg false 7 (.call 4 (.cons (.var 0) (.cons (.var 1) .nil)))) (.cons (.asg false 8 (.bin .Add (.bin .Add (.var 7) (.int 1)) (.call 4 (.cons (.var 0) (.cons (.bin .Sub (.var 1) (.var 7)) .nil))))) (.cons (.asg false 5 (.binL .Add (.binL .Add (.sl true (.var 5) (.gap) (.var 7)) (.rev true (.sl true (.var 5) (.var 7) (.var 8)))) (.sl true (.var 5) (.var 8) (.gap)))) .nil)))) (.cons (.app 3 (.blt .tuple (.cons (.ite (.cmp .Eq (.call 4 (.cons (.var 0) (.cons (.int 6) .nil))) (.int 0)) (.call 6 (.cons (.var 0) (.cons (.var 5) .nil))) (.var 5)) .nil))) .nil)))) (.cons (.ret (.blt .tuple (.cons (.var 3) .nil))) .nil)))
theorem ck__law_rows : chkB cb__law_rows (baseC N__law_rows (defScope st__law_rows) (fsA.take 8) ks__law_rows ky__law_rows) ([true, true, false].map (!·)) (List.replicate N__law_rows.length false) [] (defBody st__law_rows) = true := by kernel_rfl
abbrev st__law_is_run : Stmt := top 11
def N__law_is_run : List PySem.Str := ["_law_rows_here", "_law_lot", "_law_row", "_law_places", "_law_place", "_law_thing"]
def ks__law_is_run : List (Nat × Nat × List PySem.Str × List Nat) := [(1, 0, ["lot", "rows"], [1, 0]), (2, 0, ["rows", "size"], [1, 0])]
def ky__law_is_run : List Nat := [7, 0]
theorem sc__law_is_run : FnScope N__law_is_run ["_law_rows_here", "_law_lot"] (defScope st__law_is_run) := ⟨rfl, rfl, rfl, by decide +kernel, rfl, by decide +kernel, by decide +kernel⟩
def cb__law_is_run : CB := (.cons (.for_ .seq (.cons (.var 0) .nil) (.one 2) (.cons (.asg false 3 (.lc .enum (.cons (.var 2) .nil) (.many [4, 5]) (.cons (.cmp .In (.var 5) (.var 1)) .nil) (.var 4))) (.cons (.if_ (.cmp .NotEq (.bin .Add (.bin .Sub (.ix (.var 3) (.neg (.int 1))) (.ix (.var 3) (.int 0))) (.int 1)) (.blt .len (.cons (.var 1) .nil))) (.cons (.ret (.bl false)) .nil) .nil) .nil))) (.cons (.ret (.bl true)) .nil))
theorem ck__law_is_run : chkB cb__law_is_run (baseC N__law_is_run (defScope st__law_is_run) (fsA.take 9) ks__law_is_run ky__law_is_run) ([true, false].map (!·)) (List.replicate N__law_is_run.length false) [] (defBody st__law_is_run) = true := by kernel_rfl
abbrev st__law_subsets : Stmt := top 12
def N__law_subsets : List PySem.Str := ["_law_items", "_law_found", "_law_item", "_law_own"]
def ks__law_subsets : List (Nat × Nat × List PySem.Str × List Nat) := [(1, 0, ["lot", "rows"], [1, 0]), (2, 0, ["rows", "size"], [1, 0])]
def ky__law_subsets : List Nat := [7, 0]
theorem sc__law_subsets : FnScope N__law_subsets ["_law_items"] (defScope st__law_subsets) := ⟨rfl, rfl, rfl, by decide +kernel, rfl, by decide +kernel, by decide +kernel⟩
def cb__law_subsets : CB := (.cons (.asg false 1 (.lst (.cons (.lst .nil) .nil))) (.cons (.for_ .seq (.cons (.var 0) .nil) (.one 2) (.cons (.asg false 1 (.binL .Add (.var 1) (.lc .seq (.cons (.var 1) .nil) (.one 3) .nil (.binL .Add (.var 3) (.lst (.cons (.var 2) .nil)))))) .nil)) (.cons (.ret (.var 1)) .nil)))
theorem ck__law_subsets : chkB cb__law_subsets (baseC N__law_subsets (defScope st__law_subsets) (fsA.take 10) ks__law_subsets ky__law_subsets) ([true].map (!·)) (List.replicate N__law_subsets.length false) [] (defBody st__law_subsets) = true := by kernel_rfl
abbrev st__law_due : Stmt := top 13
def N__law_due : List PySem.Str := ["_law_size", "_law_rows_here", "_law_lots", "_law_own", "_law_lot"]
def ks__law_due : List (Nat × Nat × List PySem.Str × List Nat) := [(1, 0, ["lot", "rows"], [1, 0]), (2, 0, ["rows", "size"], [1, 0])]
def ky__law_due : List Nat := [7, 0]
theorem sc__law_due : FnScope N__law_due ["_law_size", "_law_rows_here"] (defScope st__law_due) := ⟨rfl, rfl, rfl, by decide +kernel, rfl, by decide +kernel, by decide +kernel⟩
def cb__law_due : CB := (.cons (.asg false 2 (.lc .seq (.cons (.call 10 (.cons (.rng1 false (.var 0)) .nil)) .nil) (.one 3) (.cons (.cmp .NotEq (.var 3) (.lst .nil)) .nil) (.blt .tuple (.cons (.var 3) .nil)))) (.cons (.ret (.sortK (.lc .seq (.cons (.var 2) .nil) (.one 4) (.cons (.call 9 (.cons (.var 1) (.cons (.var 4) .nil))) .nil) (.var 4)) 7)) .nil))
theorem ck__law_due : chkB cb__law_due (baseC N__law_due (defScope st__law_due) (fsA.take 11) ks__law_due ky__law_due) ([false, true].map (!·)) (List.replicate N__law_due.length false) [] (defBody st__law_due) = true := by kernel_rfl
abbrev st__law_without : Stmt := top 14
def N__law_without : List PySem.Str := ["_law_lot", "_law_thing", "_law_own"]
def ks__law_without : List (Nat × Nat × List PySem.Str × List Nat) := [(1, 0, ["lot", "rows"], [1, 0]), (2, 0, ["rows", "size"], [1, 0])]
def ky__law_without : List Nat := [7, 0]
theorem sc__law_without : FnScope N__law_without ["_law_lot", "_law_thing"] (defScope st__law_without) := ⟨rfl, rfl, rfl, by decide +kernel, rfl, by decide +kernel, by decide +kernel⟩
def cb__law_without : CB := (.cons (.ret (.blt .tuple (.cons (.lc .seq (.cons (.var 0) .nil) (.one 2) (.cons (.cmp .NotEq (.var 2) (.var 1)) .nil) (.ite (.cmp .Gt (.var 2) (.var 1)) (.bin .Sub (.var 2) (.int 1)) (.var 2))) .nil))) .nil)
theorem ck__law_without : chkB cb__law_without (baseC N__law_without (defScope st__law_without) (fsA.take 12) ks__law_without ky__law_without) ([false, false].map (!·)) (List.replicate N__law_without.length false) [] (defBody st__law_without) = true := by kernel_rfl
abbrev st__law_is_same : Stmt := top 15
def N__law_is_same : List PySem.Str := ["_law_well_here", "_law_size", "_law_rows_here", "_law_due_here", "_law_bent", "_law_row"]
def ks__law_is_same : List (Nat × Nat × List PySem.Str × List Nat) := [(1, 0, ["lot", "rows"], [1, 0]), (2, 0, ["rows", "size"], [1, 0])]
def ky__law_is_same : List Nat := [7, 0]
theorem sc__law_is_same : FnScope N__law_is_same ["_law_well_here", "_law_size", "_law_rows_here", "_law_due_here"] (defScope st__law_is_same) := ⟨rfl, rfl, rfl, by decide +kernel, rfl, by decide +kernel, by decide +kernel⟩
def cb__law_is_same : CB := (.cons (.asg false 4 (.lc .seq (.cons (.var 2) .nil) (.one 5) .nil (.ite (.cmp .Eq (.call 4 (.cons (.var 0) (.cons (.int 2) .nil))) (.int 0)) (.rev false (.var 5)) (.var 5)))) (.cons (.asg false 4 (.call 6 (.cons (.var 0) (.cons (.binL .Add (.var 4) (.lst (.cons (.call 5 (.cons (.var 0) (.cons (.var 4) .nil))) .nil))) .nil)))) (.cons (.ret (.cmp .Eq (.blt .repr (.cons (.lst (.cons (.call 2 (.cons (.var 1) (.cons (.blt .tuple (.cons (.var 4) .nil)) .nil))) (.cons (.callK 1 .nil (.cons (.rev false (.var 2)) (.cons (.var 1) .nil))) .nil))) .nil)) (.blt .repr (.cons (.lst (.cons (.var 3) (.cons (.var 3) .nil))) .nil)))) .nil)))
theorem ck__law_is_same : chkB cb__law_is_same (baseC N__law_is_same (defScope st__law_is_same) (fsA.take 13) ks__law_is_same ky__law_is_same) ([true, true, false, true].map (!·)) (List.replicate N__law_is_same.length false) [] (defBody st__law_is_same) = true := by kernel_rfl
abbrev st__law_is_renamed : Stmt := top 16
def N__law_is_renamed : List PySem.Str := ["_law_well_here", "_law_size", "_law_rows_here", "_law_due_here", "_law_names", "_law_fresh", "_law_lots", "_law_row", "_law_lot", "_law_thing"]
def ks__law_is_renamed : List (Nat × Nat × List PySem.Str × List Nat) := [(1, 0, ["lot", "rows"], [1, 0]), (2, 0, ["rows", "size"], [1, 0])]
def ky__law_is_renamed : List Nat := [7, 0]
theorem sc__law_is_renamed : FnScope N__law_is_renamed ["_law_well_here", "_law_size", "_law_rows_here", "_law_due_here"] (defScope st__law_is_renamed) := ⟨rfl, rfl, rfl, by decide +kernel, rfl, by decide +kernel, by decide +kernel⟩
def cb__law_is_renamed : CB := (.cons (.asg false 4 (.call 6 (.cons (.var 0) (.cons (.rng1 false (.var 1)) .nil)))) (.cons (.asg false 5 (.blt .tuple (.cons (.lc .seq (.cons (.var 2) .nil) (.one 7) .nil (.blt .tuple (.cons (.lc .seq (.cons (.var 7) .nil) (.one 9) .nil (.ix (.var 4) (.var 9))) .nil))) .nil))) (.cons (.asg false 6 (.sortK (.lc .seq (.cons (.var 3) .nil) (.one 8) .nil (.blt .tuple (.cons (.blt .sorted (.cons (.lc .seq (.cons (.var 8) .nil) (.one 9) .nil (.ix (.var 4) (.var 9))) .nil)) .nil))) 7)) (.cons (.ret (.cmp .Eq (.blt .repr (.cons (.call 2 (.cons (.var 1) (.cons (.var 5) .nil))) .nil)) (.blt .repr (.cons (.blt .tuple (.cons (.var 6) .nil)) .nil)))) .nil))))
theorem ck__law_is_renamed : chkB cb__law_is_renamed (baseC N__law_is_renamed (defScope st__law_is_renamed) (fsA.take 14) ks__law_is_renamed ky__law_is_renamed) ([true, true, false, false].map (!·)) (List.replicate N__law_is_renamed.length false) [] (defBody st__law_is_renamed) = true := by kernel_rfl
abbrev st__law_is_fewer : Stmt := top 17
def N__law_is_fewer : List PySem.Str := ["_law_well_here", "_law_size", "_law_rows_here", "_law_due_here", "_law_more", "_law_lots", "_law_thing", "_law_less", "_law_told", "_law_rests", "_law_lot", "_law_row"]
def ks__law_is_fewer : List (Nat × Nat × List PySem.Str × List Nat) := [(1, 0, ["lot", "rows"], [1, 0]), (2, 0, ["rows", "size"], [1, 0])]
def ky__law_is_fewer : List Nat := [7, 0]
theorem sc__law_is_fewer : FnScope N__law_is_fewer ["_law_well_here", "_law_size", "_law_rows_here", "_law_due_here"] (defScope st__law_is_fewer) := ⟨rfl, rfl, rfl, by decide +kernel, rfl, by decide +kernel, by decide +kernel⟩
def cb__law_is_fewer : CB := (.cons (.asg false 4 (.call 8 (.cons (.var 0) (.cons (.var 1) (.cons (.bin .Add (.int 1) (.call 4 (.cons (.var 0) (.cons (.int 2) .nil)))) .nil))))) (.cons (.asg false 5 (.lc .seq (.cons (.var 3) .nil) (.one 10) (.cons (.call 9 (.cons (.var 4) (.cons (.var 10) .nil))) .nil) (.var 10))) (.cons (.if_ (.cmp .NotEq (.blt .repr (.cons (.call 2 (.cons (.var 1) (.cons (.bin .Add (.var 2) (.var 4)) .nil))) .nil)) (.blt .repr (.cons (.blt .tuple (.cons (.var 5) .nil)) .nil))) (.cons (.ret (.bl false)) .nil) .nil) (.cons (.asg false 6 (.call 4 (.cons (.var 0) (.cons (.var 1) .nil)))) (.cons (.asg false 7 (.blt .tuple (.cons (.lc .seq (.cons (.var 2) .nil) (.one 11) .nil (.call 12 (.cons (.var 11) (.cons (.var 6) .nil)))) .nil))) (.cons (.asg false 8 (.call 2 (.cons (.bin .Sub (.var 1) (.int 1)) (.cons (.var 7) .nil)))) (.cons (.asg false 9 (.lc .seq (.cons (.var 3) .nil) (.one 10) .nil (.call 12 (.cons (.var 10) (.cons (.var 6) .nil))))) (.cons (.ret (.and_ (.cons (.cmp .Eq (.lc .seq (.cons (.var 9) .nil) (.one 10) (.cons (.and_ (.cons (.cmp .NotEq (.var 10) (.tup .nil)) (.cons (.cmp .NotIn (.var 10) (.var 8)) .nil))) .nil) (.int 1)) (.lst .nil)) (.cons (.cmp .Eq (.blt .len (.cons (.var 8) .nil)) (.blt .len (.cons (.call 11 (.cons (.bin .Sub (.var 1) (.int 1)) (.cons (.var 7) .nil))) .nil))) .nil)))) .nil))))))))
theorem ck__law_is_fewer : chkB cb__law_is_fewer (baseC N__law_is_fewer (defScope st__law_is_fewer) (fsA.take 15) ks__law_is_fewer ky__law_is_fewer) ([true, true, false, false].map (!·)) (List.replicate N__law_is_fewer.length false) [] (defBody st__law_is_fewer) = true := by kernel_rfl
abbrev st__law_is_right : Stmt := top 18
def N__law_is_right : List PySem.Str := ["_law_well_here", "_law_size", "_law_rows_here", "_law_lots", "_law_own", "_law_due_here", "_law_was", "_law_lot", "_law_turn"]
def ks__law_is_right : List (Nat × Nat × List PySem.Str × List Nat) := [(1, 0, ["lot", "rows"], [1, 0]), (2, 0, ["rows", "size"], [1, 0])]
def ky__law_is_right : List Nat := [7, 0]
theorem sc__law_is_right : FnScope N__law_is_right ["_law_well_here", "_law_size", "_law_rows_here"] (defScope st__law_is_right) := ⟨rfl, rfl, rfl, by decide +kernel, rfl, by decide +kernel, by decide +kernel⟩
def cb__law_is_right : CB := (.cons (.par2 false false 5 6 (.blt .tuple (.cons (.call 11 (.cons (.var 1) (.cons (.var 2) .nil))) .nil)) (.blt .repr (.cons (.var 2) .nil))) (.cons (.if_ (.cmp .NotEq (.blt .repr (.cons (.call 2 (.cons (.var 1) (.cons (.var 2) .nil))) .nil)) (.blt .repr (.cons (.var 5) .nil))) (.cons (.ret (.bl false)) .nil) .nil) (.cons (.asg false 3 (.call 10 (.cons (.rng1 false (.var 1)) .nil))) (.cons (.if_ (.cmp .Gt (.var 1) (.int 4)) (.cons (.asg false 3 (.binL .Add (.lc .rng1 (.cons (.int 10) .nil) (.one 8) .nil (.call 5 (.cons (.var 0) (.cons (.var 3) .nil)))) (.lst (.cons (.blt .list (.cons (.call 5 (.cons (.var 0) (.cons (.var 5) .nil))) .nil)) (.cons (.lst .nil) .nil))))) .nil) .nil) (.cons (.for_ .seq (.cons (.var 3) .nil) (.one 4) (.cons (.asg false 7 (.blt .tuple (.cons (.var 4) .nil))) (.cons (.if_ (.cmp .NotEq (.blt .repr (.cons (.lst (.cons (.call 1 (.cons (.var 2) (.cons (.var 7) .nil))) (.cons (.callK 0 .nil (.cons (.var 7) (.cons (.var 2) .nil))) .nil))) .nil)) (.blt .repr (.cons (.lst (.cons (.cmp .In (.var 7) (.var 5)) (.cons (.cmp .In (.var 7) (.var 5)) .nil))) .nil))) (.cons (.ret (.bl false)) .nil) .nil) .nil))) (.cons (.if_ (.or_ (.cons (.not_ (.call 13 (.cons (.var 0) (.cons (.var 1) (.cons (.var 2) (.cons (.var 5) .nil)))))) (.cons (.not_ (.call 14 (.cons (.var 0) (.cons (.var 1) (.cons (.var 2) (.cons (.var 5) .nil)))))) .nil))) (.cons (.ret (.bl false)) .nil) .nil) (.cons (.ret (.and_ (.cons (.call 15 (.cons (.var 0) (.cons (.var 1) (.cons (.var 2) (.cons (.var 5) .nil))))) (.cons (.cmp .Eq (.blt .repr (.cons (.call 2 (.cons (.var 1) (.cons (.var 2) .nil))) .nil)) (.blt .repr (.cons (.var 5) .nil))) (.cons (.cmp .Eq (.blt .repr (.cons (.var 2) .nil)) (.var 6)) .nil))))) .nil)))))))
theorem ck__law_is_right : chkB cb__law_is_right (baseC N__law_is_right (defScope st__law_is_right) (fsA.take 16) ks__law_is_right ky__law_is_right) ([true, true, true].map (!·)) (List.replicate N__law_is_right.length false) [] (defBody st__law_is_right) = true := by kernel_rfl
abbrev st_law : Stmt := top 19
def N_law : List PySem.Str := ["_law_script", "_law_well_here", "_law_turn", "_law_rows_here", "_law_told", "_law_size"]
def ks_law : List (Nat × Nat × List PySem.Str × List Nat) := [(1, 0, ["lot", "rows"], [1, 0]), (2, 0, ["rows", "size"], [1, 0])]
def ky_law : List Nat := [7, 0]
theorem sc_law : FnScope N_law ["_law_script"] (defScope st_law) := ⟨rfl, rfl, rfl, by decide +kernel, rfl, by decide +kernel, by decide +kernel⟩
def cb_law : CB := (.cons (.asg false 1 (.call 3 (.cons (.var 0) .nil))) (.cons (.for_ .rng1 (.cons (.int 3) .nil) (.one 2) (.cons (.asg false 5 (.call 5 (.cons (.var 1) (.cons (.ix (.lst (.cons (.lst (.cons (.int 1) (.cons (.int 2) (.cons (.int 3) (.cons (.int 4) .nil))))) (.cons (.lst (.cons (.int 4) (.cons (.int 5) .nil))) (.cons (.lst (.cons (.int 3) (.cons (.int 5) (.cons (.int 6) (.cons (.int 6) .nil))))) .nil)))) (.var 2)) .nil)))) (.cons (.if_ (.not_ (.call 16 (.cons (.var 1) (.cons (.var 5) (.cons (.call 8 (.cons (.var 1) (.cons (.var 5) (.cons (.bin .Add (.int 1) (.call 4 (.cons (.var 1) (.cons (.int 4) .nil)))) .nil)))) .nil))))) (.cons (.ret (.bl false)) .nil) .nil) .nil))) (.cons (.asg false 3 (.tup (.cons (.tup (.cons (.int 0) (.cons (.int 1) (.cons (.int 2) .nil)))) (.cons (.tup (.cons (.int 1) (.cons (.int 0) (.cons (.int 2) .nil)))) .nil)))) (.cons (.asg false 4 (.lst (.cons (.call 2 (.cons (.int 3) (.cons (.var 3) .nil))) (.cons (.call 1 (.cons (.var 3) (.cons (.tup (.cons (.int 0) (.cons (.int 1) .nil))) .nil))) (.cons (.call 1 (.cons (.var 3) (.cons (.tup (.cons (.int 1) (.cons (.int 2) .nil))) .nil))) (.cons (.call 1 (.cons (.var 3) (.cons (.tup .nil) .nil))) .nil)))))) (.cons (.ret (.cmp .Eq (.blt .repr (.cons (.var 4) .nil)) (.blt .repr (.cons (.lst (.cons (.tup (.cons (.tup (.cons (.int 0) .nil)) (.cons (.tup (.cons (.int 1) .nil)) (.cons (.tup (.cons (.int 2) .nil)) (.cons (.tup (.cons (.int 0) (.cons (.int 1) .nil))) (.cons (.tup (.cons (.int 0) (.cons (.int 1) (.cons (.int 2) .nil)))) .nil)))))) (.cons (.bl true) (.cons (.bl false) (.cons (.bl false) .nil))))) .nil)))) .nil)))))
theorem ck_law : chkB cb_law (baseC N_law (defScope st_law) (fsA.take 17) ks_law ky_law) ([true].map (!·)) (List.replicate N_law.length false) [] (defBody st_law) = true := by kernel_rfl
end K84
set_option Elab.async false
set_option linter.all false
set_option maxRecDepth 100000
set_option maxHeartbeats 4000000
namespace K84
open PySem PySem.Spec PyProof.Rows L2 VI
section
variable {P : Program} {w : World} {K : PySem.W.Frag} {mg : Str → Option Value} {base : Heap} {RX : RXT} {f : Addr} {fd : FuncData} {dk g c : Addr} {cs : List Int} {stv : Int}
theorem draw_ok (F : Fun K "_law_draw" "_law_draw" st__law_draw f fd) (hlen : mg "len" = none) (hint : mg "int" = none) (n1 : dk ≠ g) (n2 : dk ≠ c) (n3 : g ≠ c) (hcs : cs ≠ []) (hcl : cs.length ≤ 100) :
    FnG P w K mg base 5 f fd ["_law_well_here", "_law_many"] (SpV (wellW "great" "cells" "stirred" "count" dk g c cs stv) RX drawFI) := by
  refine gn_of F sc__law_draw (fun xs h q e ⟨P0, ds, post, ex, _, rm, _⟩ => rm.len.2) fun cdv B fr s h xs q e gd hr hs => ?_
  have hu : (cxOf (L2.CX P w) P w K mg base N__law_draw "_law_draw" (defScope st__law_draw) f cdv B fr s h e).A.units + 1 < cLine := hu_of hr
  have hu64 : (cxOf (L2.CX P w) P w K mg base N__law_draw "_law_draw" (defScope st__law_draw) f cdv B fr s h e).A.units + 64 < cLine := hr.units
  have nd := sc__law_draw.nd
  have rint : ∀ {X : Cx} {e : Expr} {p pos : Pos} {t : TE}, Gl X "int" → X.mg "int" = none → PE X e t → nst e = true → PE X (.Call (.Name "int" p) [e] [] pos) (tCB _ (tCons t tNil)) := fun {X e p pos t} hg hm pe hn =>
    pe_callTy call_int1 hg hm (blt_boot .int).1 (pa_cons pe pa_nil (star_cons hn)) (blt_boot .int).2 (by decide) (star_cons hn) rfl
  have rlen : ∀ {X : Cx} {e : Expr} {p pos : Pos} {t : TE}, Gl X "len" → X.mg "len" = none → PE X e t → nst e = true → PE X (.Call (.Name "len" p) [e] [] pos) (tCB _ (tCons t tNil)) := fun {X e p pos t} hg hm pe hn =>
    pe_callB call_len_seq hg hm (blt_boot .len).1 (pa_cons pe pa_nil (star_cons hn)) (blt_boot .len).2 (by decide) (star_cons hn) rfl
  refine ⟨_,
    pss_cons (ps_if (pt_cmp (pc_lt (pv 1) pe_int)) (pss_one (ps_ret pe_int)) pss_nil)
    (pss_cons (ps_set (i := 2) nd rfl (.inl rfl) (pe_dget hu (pv 0) pe_str (fun _ _ => rfl)))
    (pss_cons (ps_if (pt_cmpR (op_neD hu64) (pv 2) (pe_lst pa_nil) rfl)
      (pss_cons (ps_set (i := 4) nd rfl (.inl rfl) (pe_bm0 PySem.F.plainAttrs_list PySem.F.slot_list_pop PySem.F.type_list_pop mt_pop (pv 2)))
      (pss_cons (ps_if (pt_cmp (pc_ge (pv 4) (pv 1))) (pss_one (ps_expr (pe_bm PySem.F.plainAttrs_list PySem.F.slot_list_append PySem.F.type_list_append mt_append (pv 2) (pa_cons (pe_op op_fdiv (pv 4) (pv 1)) pa_nil)))) pss_nil)
      (pss_one (ps_ret (pe_op op_mod (rint rfl hint (pv 4) rfl) (pv 1)))))) pss_nil)
    (pss_cons (ps_set (i := 3) nd rfl (.inl rfl) (pe_op op_add (pe_dget hu (pv 0) pe_str (fun _ _ => rfl)) pe_int))
    (pss_cons (ps_dput hu (pv 0) pe_str (pv 3) rfl)
    (pss_cons (ps_set (i := 4) nd rfl (.inl rfl) (pe_op op_mod (rint rfl hint (pe_ix ix_list (pe_dget hu (pv 0) pe_str (fun _ _ => rfl)) (pe_op op_mod (rint rfl hint (pv 3) rfl) (rlen rfl hlen (pe_dget hu (pv 0) pe_str (fun _ _ => rfl)) rfl)) (fun _ _ => rfl)) rfl) pe_int))
    (pss_cons (ps_set (i := 5) nd rfl (.inl rfl) (pe_op op_mod (rint rfl hint (pe_op op_add (pe_op op_add (pe_op op_mul (pv 4) pe_int) (pe_dget hu (pv 0) pe_str (fun _ _ => rfl))) (pe_op op_mul (pv 3) pe_int)) rfl) pe_int))
    (pss_cons (ps_set (i := 5) nd rfl (.inl rfl) (pe_op op_mod (rint rfl hint (pe_op op_add (pe_op op_add (pe_op op_mul (pv 5) (pv 5)) (pe_op op_mul (pv 3) pe_int)) (pe_op op_mul pe_int (pv 4))) rfl) pe_int))
    (pss_cons (ps_set (i := 5) nd rfl (.inl rfl) (pe_op op_mod (rint rfl hint (pe_op op_add (pe_op op_add (pe_op op_mul (pv 5) (pv 5)) (pv 5)) pe_int) rfl) pe_int))
    (pss_one (ps_ret (pe_op op_mod (rint rfl hint (pe_op op_fdiv (pv 5) pe_int) rfl) (pv 1)))))))))))), ?_⟩
  obtain ⟨P0, ds, post, ex, hp, rm, sp, hq, hx⟩ := hs
  obtain ⟨n, rfl, hn, hpost⟩ := sp
  obtain ⟨d1, ds1, v1, xs1, e1, rfl, r1, rm⟩ := rm
  obtain ⟨d2, ds2, v2, xs2, e2, rfl, r2, rm⟩ := rm
  obtain ⟨_, rfl⟩ := rm
  cases e1
  cases e2
  have r1 : R dk P0 .deck v1 := r1
  have r2 : R dk P0 (.int n) v2 := r2
  simp only [R] at r1 r2
  subst r1 r2
  obtain ⟨⟨gs, cnt, c0, gl, hd, hg⟩, hc⟩ := hp.ok
  have done : ∀ (i : Int) (H' : Hp), 0 ≤ i → (i < n ∨ (n < 2 ∧ i = 0)) → WellOk "great" "cells" "stirred" "count" dk g c cs stv H' → (∀ a, ¬ (a = dk ∨ a = g ∨ a = c) → ∀ o, h a = some o → H' a = some o) → q (.int i) H' := fun i H' i0 i1 ok hk =>
    hq (.int i) (.int i) P0 H' emp (hpost i i0 i1) (.of (stp_world hp ok hk) (VI.rint P0 i))
  refine ⟨_, rfl, n, 2, rfl, rfl, _, rfl, ?_⟩
  show (if decide (n < 2) = true then _ else _)
  by_cases h2 : n < 2
  · rw [if_pos (decide_eq_true h2)]
    exact done 0 h (Int.le_refl _) (.inr ⟨h2, rfl⟩) hp.ok fun _ _ _ z => z
  rw [if_neg (by rw [decide_eq_false h2]; exact Bool.false_ne_true)]
  refine ⟨_, rfl, dk, .ref g, rfl, DGet.k (k := .inr "great") hd, ?_⟩
  refine ⟨_, rfl, Nat.zero_le _, fun p np => ?_⟩
  have pdk : dk ≠ p := fun z => by rw [← z, hd] at np; cases np
  have pg : g ≠ p := fun z => by rw [← z, hg] at np; cases np
  have pc : c ≠ p := fun z => by rw [← z, hc] at np; cases np
  have hd1 : (upd h p (.lst [])) dk = some (.dK (wellKV "great" "cells" "stirred" "count" g c stv cnt)) := by rw [upd_ne pdk]; exact hd
  have hg1 : (upd h p (.lst [])) g = some (.lst (gs.map V.int)) := by rw [upd_ne pg]; exact hg
  have hc1 : (upd h p (.lst [])) c = some (.lst (cs.map V.int)) := by rw [upd_ne pc]; exact hc
  have hp1 : (upd h p (.lst [])) p = some (.lst []) := upd_same
  have hk1 : ∀ a o, h a = some o → (upd h p (.lst [])) a = some o := fun a o z => by rw [upd_ne (ne_of_none z np)]; exact z
  generalize upd h p (.lst []) = H1 at hd1 hg1 hc1 hk1 hp1 ⊢
  refine ⟨.list (gs.map PyData.int), .list [], .lst (SqL.of hg1) (dp_ints gs), .lst (SqL.of hp1) .nil, shp_ints gs, rfl, _, rfl, ?_⟩
  show (if (!PyData.eqv (.list (gs.map PyData.int)) (.list [])) = true then _ else _)
  cases hgs : gs.reverse with
  | cons x r =>
    have e1 : gs = r.reverse ++ [x] := by rw [← List.reverse_reverse gs, hgs, List.reverse_cons]
    have e2 : (!PyData.eqv (.list (gs.map PyData.int)) (.list [])) = true := by
      rw [e1]
      cases r.reverse <;> rfl
    rw [if_pos e2]
    have n0 : 0 < n := by omega
    have fin : ∀ (gs' : List Int) (H' : Hp), gs'.length ≤ 100 → H' dk = some (.dK (wellKV "great" "cells" "stirred" "count" g c stv cnt)) → H' g = some (.lst (gs'.map V.int)) → H' c = some (.lst (cs.map V.int)) → (∀ a, ¬ (a = dk ∨ a = g ∨ a = c) → ∀ o, h a = some o → H' a = some o) → q (.int (x % n)) H' :=
      fun gs' H' l1 l2 l3 l4 l5 => done _ _ (Int.emod_nonneg _ (by omega)) (.inl (Int.emod_lt_of_pos _ n0)) ⟨⟨gs', cnt, c0, l1, l2, l3⟩, l4⟩ l5
    have hgl : r.reverse.length + 1 ≤ 100 := by rw [e1, List.length_append] at gl; exact gl
    have hmap : gs.map V.int = r.reverse.map V.int ++ [V.int x] := by rw [e1, List.map_append]; rfl
    rw [hmap] at hg1
    refine ⟨_, rfl, .inl ⟨rfl, _, SqL.of hg1⟩, g, _, .int x, rfl, rfl, hg1, ?_, ?_⟩
    · rw [List.length_append, List.length_singleton, Nat.add_sub_cancel, List.getElem?_append_right (Nat.le_refl _), Nat.sub_self]; rfl
    rw [List.dropLast_concat]
    have hd2 : (upd H1 g (.lst (r.reverse.map V.int))) dk = some (.dK (wellKV "great" "cells" "stirred" "count" g c stv cnt)) := by rw [upd_ne n1]; exact hd1
    have hg2 : (upd H1 g (.lst (r.reverse.map V.int))) g = some (.lst (r.reverse.map V.int)) := upd_same
    have hc2 : (upd H1 g (.lst (r.reverse.map V.int))) c = some (.lst (cs.map V.int)) := by rw [upd_ne (Ne.symm n3)]; exact hc1
    have hk2 : ∀ a, ¬ (a = dk ∨ a = g ∨ a = c) → ∀ o, h a = some o → (upd H1 g (.lst (r.reverse.map V.int))) a = some o := fun a na o z => by rw [upd_ne fun y => na (.inr (.inl y))]; exact hk1 a o z
    generalize upd H1 g (.lst (r.reverse.map V.int)) = H2 at hd2 hg2 hc2 hk2 ⊢
    refine ⟨_, rfl, _, rfl, x, n, rfl, rfl, _, rfl, ?_⟩
    show (if decide (n ≤ x) = true then _ else _)
    by_cases hx2 : n ≤ x
    · rw [if_pos (decide_eq_true hx2)]
      refine ⟨_, rfl, .inl ⟨rfl, _, SqL.of hg2⟩, _, rfl, _, rfl, x, n, rfl, rfl, ⟨n0, by omega⟩, g, _, .int (x / n), rfl, rfl, hg2, ?_, ?_⟩
      · rw [List.length_map]; exact small1000 (by omega)
      have hd3 : (upd H2 g (.lst (r.reverse.map V.int ++ [V.int (x / n)]))) dk = some (.dK (wellKV "great" "cells" "stirred" "count" g c stv cnt)) := by rw [upd_ne n1]; exact hd2
      have hg3 : (upd H2 g (.lst (r.reverse.map V.int ++ [V.int (x / n)]))) g = some (.lst ((r.reverse ++ [x / n]).map V.int)) := by rw [upd_same, List.map_append]; rfl
      have hc3 : (upd H2 g (.lst (r.reverse.map V.int ++ [V.int (x / n)]))) c = some (.lst (cs.map V.int)) := by rw [upd_ne (Ne.symm n3)]; exact hc2
      have hk3 : ∀ a, ¬ (a = dk ∨ a = g ∨ a = c) → ∀ o, h a = some o → (upd H2 g (.lst (r.reverse.map V.int ++ [V.int (x / n)]))) a = some o := fun a na o z => by rw [upd_ne fun y => na (.inr (.inl y))]; exact hk2 a na o z
      generalize upd H2 g (.lst (r.reverse.map V.int ++ [V.int (x / n)])) = H3 at hd3 hg3 hc3 hk3 ⊢
      refine ⟨_, rfl, .inl ⟨x, rfl, _, rfl, x, n, rfl, rfl, n0, ?_⟩⟩
      exact fin _ H3 (by rw [List.length_append]; exact hgl) hd3 hg3 hc3 hk3
    · rw [if_neg (by rw [decide_eq_false hx2]; exact Bool.false_ne_true)]
      refine ⟨_, rfl, .inl ⟨x, rfl, _, rfl, x, n, rfl, rfl, n0, ?_⟩⟩
      exact fin _ H2 (by omega) hd2 hg2 hc2 hk2
  | nil =>
    have e1 : gs = [] := by rw [← List.reverse_reverse gs, hgs]; rfl
    subst e1
    rw [if_neg (by decide)]
    have n0 : 0 < n := by omega
    refine ⟨_, rfl, dk, .int cnt, rfl, DGet.k (k := .inr "count") hd1, cnt, 1, rfl, rfl, ?_⟩
    refine ⟨_, rfl, _, rfl, dk, _, rfl, DPut.k (k := .inr "count") hd1 (by show 4 < sizeLine; decide), ?_⟩
    have hput : putK (wellKV "great" "cells" "stirred" "count" g c stv cnt) (.inr "count") (.int (cnt + 1)) = wellKV "great" "cells" "stirred" "count" g c stv (cnt + 1) := rfl
    rw [hput]
    have hd2 : (upd H1 dk (.dK (wellKV "great" "cells" "stirred" "count" g c stv (cnt + 1)))) dk = some (.dK (wellKV "great" "cells" "stirred" "count" g c stv (cnt + 1))) := upd_same
    have hg2 : (upd H1 dk (.dK (wellKV "great" "cells" "stirred" "count" g c stv (cnt + 1)))) g = some (.lst ([] : List V)) := by rw [upd_ne (Ne.symm n1)]; exact hg1
    have hc2 : (upd H1 dk (.dK (wellKV "great" "cells" "stirred" "count" g c stv (cnt + 1)))) c = some (.lst (cs.map V.int)) := by rw [upd_ne (Ne.symm n2)]; exact hc1
    have hk2 : ∀ a, ¬ (a = dk ∨ a = g ∨ a = c) → ∀ o, h a = some o → (upd H1 dk (.dK (wellKV "great" "cells" "stirred" "count" g c stv (cnt + 1)))) a = some o := fun a na o z => by rw [upd_ne fun y => na (.inl y)]; exact hk1 a o z
    generalize upd H1 dk (.dK (wellKV "great" "cells" "stirred" "count" g c stv (cnt + 1))) = H2 at hd2 hg2 hc2 hk2 ⊢
    have ok2 : WellOk "great" "cells" "stirred" "count" dk g c cs stv H2 := ⟨⟨[], cnt + 1, by omega, Nat.zero_le _, hd2, hg2⟩, hc2⟩
    have len0 : 0 < cs.length := by cases cs with
      | nil => exact absurd rfl hcs
      | cons _ _ => exact Nat.succ_pos _
    have b1 := Int.emod_nonneg (cnt + 1) (b := (cs.length : Int)) (by omega)
    have b2 := Int.emod_lt_of_pos (cnt + 1) (b := (cs.length : Int)) (by omega)
    obtain ⟨z, hz⟩ : ∃ z, cs[((cnt + 1) % (cs.length : Int)).toNat]? = some z := ⟨_, List.getElem?_eq_getElem (by omega)⟩
    have hcm : (cs.map V.int).length = cs.length := List.length_map _
    refine ⟨_, rfl, dk, .ref c, rfl, DGet.k (k := .inr "cells") hd2, ?_⟩
    refine ⟨_, rfl, .inl ⟨cnt + 1, rfl, ?_⟩⟩
    refine ⟨_, rfl, dk, .ref c, rfl, DGet.k (k := .inr "cells") hd2, c, cs.map V.int, rfl, .inl (SqL.of hc2), ?_⟩
    refine ⟨cnt + 1, ((cs.map V.int).length : Nat), rfl, rfl, by rw [hcm]; omega, ?_⟩
    rw [hcm]
    refine ⟨c, cs.map V.int, _, .int z, rfl, rfl, SqL.of hc2, ?_, ?_⟩
    · rw [atI_pos b1 (by rw [hcm]; exact b2), List.getElem?_map, hz]; rfl
    refine .inl ⟨z, rfl, z, 2305843009213693921, rfl, rfl, by show (0 : Int) < _; decide, ?_⟩
    have y0 := Int.emod_nonneg z (b := 2305843009213693921) (by decide)
    dsimp only
    generalize z % 2305843009213693921 = y at y0
    -- the first mixing
    refine ⟨_, rfl, y, 40692, rfl, rfl, .inr ⟨by decide, by decide⟩, ?_⟩
    refine ⟨_, rfl, dk, .int stv, rfl, DGet.k (k := .inr "stirred") hd2, _, _, rfl, rfl, ?_⟩
    refine ⟨_, rfl, cnt + 1, 2654435761, rfl, rfl, .inr ⟨by decide, by decide⟩, _, _, rfl, rfl, ?_⟩
    refine .inl ⟨_, rfl, _, 2305843009213693951, rfl, rfl, by show (0 : Int) < _; decide, ?_⟩
    have m0 := Int.emod_nonneg (y * 40692 + stv + (cnt + 1) * 2654435761) (b := 2305843009213693951) (by decide)
    have m1 := Int.emod_lt_of_pos (y * 40692 + stv + (cnt + 1) * 2654435761) (b := 2305843009213693951) (by decide)
    dsimp only
    generalize (y * 40692 + stv + (cnt + 1) * 2654435761) % 2305843009213693951 = m at m0 m1
    refine ⟨_, rfl, _, rfl, m, m, rfl, rfl, .inl ⟨by omega, by omega⟩, ?_⟩
    refine ⟨_, rfl, cnt + 1, 48271, rfl, rfl, .inr ⟨by decide, by decide⟩, _, _, rfl, rfl, ?_⟩
    refine ⟨_, rfl, 3, y, rfl, rfl, .inl ⟨by decide, by decide⟩, _, _, rfl, rfl, ?_⟩
    refine .inl ⟨_, rfl, _, 2305843009213693921, rfl, rfl, by show (0 : Int) < _; decide, ?_⟩
    have k0 := Int.emod_nonneg (m * m + (cnt + 1) * 48271 + 3 * y) (b := 2305843009213693921) (by decide)
    have k1 := Int.emod_lt_of_pos (m * m + (cnt + 1) * 48271 + 3 * y) (b := 2305843009213693921) (by decide)
    dsimp only
    generalize (m * m + (cnt + 1) * 48271 + 3 * y) % 2305843009213693921 = m2 at k0 k1
    refine ⟨_, rfl, _, rfl, m2, m2, rfl, rfl, .inl ⟨by omega, by omega⟩, ?_⟩
    refine ⟨_, rfl, _, m2, rfl, rfl, ?_⟩
    refine ⟨_, 7, rfl, rfl, ?_⟩
    refine .inl ⟨_, rfl, _, 2305843009213693951, rfl, rfl, by show (0 : Int) < _; decide, ?_⟩
    dsimp only
    generalize (m2 * m2 + m2 + 7) % 2305843009213693951 = m3
    refine ⟨_, rfl, m3, 1048576, rfl, rfl, ⟨by decide, by decide⟩, ?_⟩
    refine .inl ⟨_, rfl, _, rfl, _, n, rfl, rfl, n0, ?_⟩
    exact done _ H2 (Int.emod_nonneg _ (by omega)) (.inl (Int.emod_lt_of_pos _ n0)) ok2 hk2
end
end K84
set_option Elab.async false
set_option linter.all false
set_option maxRecDepth 100000
set_option maxHeartbeats 4000000
namespace K84
open PySem PySem.Spec PyProof.Rows L2 VI
/-- what the well promises -/
def spWell (K : PySem.W.Frag) : Sp := fun xs H Q _ => ∃ (a : Addr) (ns : List Int), xs = [.ref a] ∧ SqL K H a (ns.map V.int) ∧ ns.length ≤ 63 ∧
  ∀ (dk g c : Addr) (cs : List Int) (st : Int) (H' : Hp), dk ≠ g → dk ≠ c → g ≠ c → cs ≠ [] → cs.length ≤ 100 → WellOk "great" "cells" "stirred" "count" dk g c cs st H' → Q (.ref dk) H'
section
variable {P : Program} {w : World} {K : PySem.W.Frag} {mg : Str → Option Value} {base : Heap} {f : Addr} {fd : FuncData}
theorem well_ok (F : Fun K "_law_well" "_law_well" st__law_well f fd) (hlen : mg "len" = none) (hint : mg "int" = none) : FnG P w K mg base 5 f fd ["_law_script"] (spWell K) := by
  refine gn_of F sc__law_well (fun xs h q e ⟨a, ns, e1, _⟩ => by rw [e1]; rfl) fun cdv B fr s h xs q e gd hr hs => ?_
  have nd := sc__law_well.nd
  have rint : ∀ {X : Cx} {e : Expr} {p pos : Pos} {t : TE}, Gl X "int" → X.mg "int" = none → PE X e t → nst e = true → PE X (.Call (.Name "int" p) [e] [] pos) (tCB _ (tCons t tNil)) := fun {X e p pos t} hg hm pe hn =>
    pe_callTy call_int1 hg hm (blt_boot .int).1 (pa_cons pe pa_nil (star_cons hn)) (blt_boot .int).2 (by decide) (star_cons hn) rfl
  have rlen : ∀ {X : Cx} {e : Expr} {p pos : Pos} {t : TE}, Gl X "len" → X.mg "len" = none → PE X e t → nst e = true → PE X (.Call (.Name "len" p) [e] [] pos) (tCB _ (tCons t tNil)) := fun {X e p pos t} hg hm pe hn =>
    pe_callB call_len_seq hg hm (blt_boot .len).1 (pa_cons pe pa_nil (star_cons hn)) (blt_boot .len).2 (by decide) (star_cons hn) rfl
  refine ⟨_,
    pss_cons (ps_setLc (i := 1) (own := [("_law_cell", 3)]) rfl nd rfl rfl (sw_true rfl rfl rfl rfl) (pi_list (pe_slice sl_list (pv 0) po_none (po_some pe_int))) (blkOk_by (by show blkC N__law_well (defScope st__law_well) _ _ = true; decide +kernel)) (fun _ _ _ _ _ => pg_name (i := 3) nd rfl (.inl rfl)) (fun _ _ _ _ _ => pts_nil)
      (fun _ _ _ _ _ => pe_ifExp (pt_cmp (pc_ge (pv 3) pe_int)) (pe_op op_mul pe_int (pv 3)) (pe_op op_sub (pe_un un_neg pe_int) (pe_op op_mul pe_int (pv 3)))))
    (pss_cons (ps_set (i := 2) nd rfl (.inl rfl) (pe_op op_add pe_int (rlen rfl hlen (pv 1) rfl)))
    (pss_cons (ps_for (passes_of rfl) rfl (pi_list (pv 1)) (pg_name (i := 3) nd rfl (.inl rfl)) (pss_one (ps_set (i := 2) nd rfl (.inl rfl) (pe_op op_mod (rint rfl hint (pe_op op_add (pe_op op_mul (pv 2) pe_int) (pv 3)) rfl) pe_int))))
    (pss_cons (ps_setLc (i := 4) (own := [("_law_cell", 3)]) rfl nd rfl rfl (sw_true rfl rfl rfl rfl) (pi_list (pv 1)) (blkOk_by (by show blkC N__law_well (defScope st__law_well) _ _ = true; decide +kernel)) (fun _ _ _ _ _ => pg_name (i := 3) nd rfl (.inl rfl)) (fun _ _ _ _ _ => pts_one (pt_cmp (pc_ge (pv 3) (pe_op op_pow pe_int pe_int))))
      (fun _ _ _ _ _ => pv 3))
    (pss_one (ps_ret (pe_disp (pps_cons pe_str (pv 4) (pps_cons pe_str (pe_op op_cat (pv 1) (pe_lst (pa_cons (pv 2) pa_nil))) (pps_cons pe_str (pv 2) (pps_cons pe_str pe_int pps_nil)))) rfl rfl (List.cons_ne_nil _ _) (by show (4 : Nat) ≤ 15; decide))))))), ?_⟩
  obtain ⟨a, ns, rfl, hS, hnl, hq⟩ := hs
  obtain ⟨ms, hms, hml⟩ : ∃ ms : List Int, cutV (ns.map V.int) none (some 63) = ms.map V.int ∧ ms.length ≤ 63 := by
    refine ⟨(ns.drop (HT.sIx (ns.map V.int).length 0 none)).take (HT.sIx (ns.map V.int).length (ns.map V.int).length (some 63) - HT.sIx (ns.map V.int).length 0 none), ?_, ?_⟩
    · unfold cutV; rw [List.map_take, List.map_drop]
    · rw [List.length_take, List.length_drop]; omega
  refine ⟨_, rfl, 63, rfl, a, _, rfl, hS, fun p np => ?_⟩
  rw [hms]
  have hp1 : (upd h p (.lst (ms.map V.int))) p = some (.lst (ms.map V.int)) := upd_same
  generalize upd h p (.lst (ms.map V.int)) = H1 at hp1 ⊢
  refine ⟨p, rfl, ⟨_, SqL.of hp1⟩, fun D1 nD => ?_⟩
  have pD : p ≠ D1 := fun z => by rw [← z, hp1] at nD; cases nD
  refine lc_list (xs := ms.map V.int) (fun i H => H p = some (.lst (ms.map V.int)) ∧ ∃ acc : List Int, acc.length = i ∧ H D1 = some (.lst (acc.map V.int))) ?_ ?_ ?_ ?_
  · exact ⟨by rw [upd_ne pD]; exact hp1, [], rfl, upd_same⟩
  · exact fun i H _ z => SqL.of z.1
  · rintro i x H hx ⟨z1, acc, z2, z3⟩
    have hi : i < ms.length := by
      have := (List.getElem?_eq_some_iff.mp hx).1
      rw [List.length_map] at this; exact this
    obtain ⟨m, rfl⟩ : ∃ m, x = V.int m := by
      rw [List.getElem?_map, List.getElem?_eq_getElem hi] at hx
      exact ⟨_, (Option.some.inj hx).symm⟩
    have put : ∀ y : Int, ∃ ac, H D1 = some (.lst ac) ∧ ac.length < sizeLine ∧ ((upd H D1 (.lst (ac ++ [V.int y]))) p = some (.lst (ms.map V.int)) ∧ ∃ acc : List Int, acc.length = i + 1 ∧ (upd H D1 (.lst (ac ++ [V.int y]))) D1 = some (.lst (acc.map V.int))) := fun y =>
      ⟨_, z3, small1000 (by rw [List.length_map]; omega), by rw [upd_ne pD]; exact z1, acc ++ [y], by rw [List.length_append, z2]; rfl, by rw [upd_same, List.map_append]; rfl⟩
    refine ⟨rfl, ?_⟩
    refine ⟨_, rfl, m, 0, rfl, rfl, _, rfl, ?_⟩
    show (if decide (0 ≤ m) = true then _ else _)
    by_cases h0 : 0 ≤ m
    · rw [if_pos (decide_eq_true h0)]
      exact ⟨_, rfl, 2, m, rfl, rfl, .inl ⟨by decide, by decide⟩, put _⟩
    · rw [if_neg (by rw [decide_eq_false h0]; exact Bool.false_ne_true)]
      exact ⟨1, rfl, _, rfl, 2, m, rfl, rfl, .inl ⟨by decide, by decide⟩, _, _, rfl, rfl, put _⟩
  rintro H ⟨_, cs0, z2, hD⟩
  rw [List.length_map] at z2
  refine ⟨_, rfl, D1, _, rfl, .inl (SqL.of hD), 97, _, rfl, rfl, ?_⟩
  refine ⟨_, rfl, D1, rfl, ⟨_, SqL.of hD⟩, fun i m σ H' => m = cs0.length - i ∧ i ≤ cs0.length ∧ H' D1 = some (.lst (cs0.map V.int)) ∧ ∃ st c3, σ = [some (.ref a), some (.ref D1), some (.int st), c3, none], ⟨cs0.length, by simp, Nat.zero_le _, hD, _, none, rfl⟩, ?_⟩
  rintro i m σ H' ⟨rfl, hi, hD', st, c3, rfl⟩
  by_cases hlt : i < cs0.length
  · refine .inr ⟨⟨_, _, SqL.of hD', List.getElem?_eq_getElem (by rw [List.length_map]; exact hlt)⟩, fun σ H' => H' D1 = some (.lst (cs0.map V.int)) ∧ ∃ st c3, σ = [some (.ref a), some (.ref D1), some (.int st), c3, none], fun σ' H2 ⟨z1, z2⟩ => ⟨cs0.length - (i + 1), by omega, rfl, hlt, z1, z2⟩, fun x H2 ⟨e2, y⟩ => ?_⟩
    subst e2
    have hx := y _ (SqL.of hD')
    obtain ⟨v, rfl⟩ : ∃ v, x = V.int v := by
      rw [List.getElem?_map, List.getElem?_eq_getElem hlt] at hx
      exact ⟨_, (Option.some.inj hx).symm⟩
    refine ⟨_, rfl, st, 69621, rfl, rfl, .inr ⟨by decide, by decide⟩, ?_⟩
    refine ⟨_, rfl, _, v, rfl, rfl, ?_⟩
    refine .inl ⟨_, rfl, _, 2305843009213693951, rfl, rfl, by show (0 : Int) < _; decide, ?_⟩
    exact ⟨hD', _, _, rfl⟩
  refine .inl ⟨⟨_, SqL.of hD', by rw [List.length_map]; omega⟩, ?_⟩
  -- the great ones
  refine ⟨_, rfl, D1, rfl, ⟨_, SqL.of hD'⟩, fun D2 nD2 => ?_⟩
  have pD2 : D1 ≠ D2 := fun z => by rw [← z, hD'] at nD2; cases nD2
  refine lc_list (xs := cs0.map V.int) (fun i H => H D1 = some (.lst (cs0.map V.int)) ∧ ∃ acc : List Int, acc.length ≤ i ∧ H D2 = some (.lst (acc.map V.int))) ?_ ?_ ?_ ?_
  · exact ⟨by rw [upd_ne pD2]; exact hD', [], Nat.le_refl _, upd_same⟩
  · exact fun i H _ z => SqL.of z.1
  · rintro i x H hx ⟨z1, acc, z2, z3⟩
    have hi : i < cs0.length := by
      have := (List.getElem?_eq_some_iff.mp hx).1
      rw [List.length_map] at this; exact this
    obtain ⟨m, rfl⟩ : ∃ m, x = V.int m := by
      rw [List.getElem?_map, List.getElem?_eq_getElem hi] at hx
      exact ⟨_, (Option.some.inj hx).symm⟩
    refine ⟨rfl, ?_⟩
    refine ⟨_, rfl, 10, 18, rfl, rfl, ⟨by decide, by decide, by decide⟩, m, _, rfl, rfl, _, rfl, ?_⟩
    show (if decide ((10 : Int) ^ 18 ≤ m) = true then _ else _)
    by_cases h0 : (10 : Int) ^ 18 ≤ m
    · rw [if_pos (decide_eq_true h0)]
      refine ⟨_, rfl, _, z3, small1000 (by rw [List.length_map]; omega), by rw [upd_ne pD2]; exact z1, acc ++ [m], by rw [List.length_append]; exact Nat.succ_le_succ z2, by rw [upd_same, List.map_append]; rfl⟩
    · rw [if_neg (by rw [decide_eq_false h0]; exact Bool.false_ne_true)]
      exact ⟨z1, acc, Nat.le_succ_of_le z2, z3⟩
  rintro H3 ⟨g1, acc, g2, g3⟩
  rw [List.length_map] at g2
  -- the dict
  intro q1 nq1
  have dq1 : D1 ≠ q1 := fun z => by rw [← z, g1] at nq1; cases nq1
  have dq2 : D2 ≠ q1 := fun z => by rw [← z, g3] at nq1; cases nq1
  have k1 : (upd H3 q1 (.dK [])) D1 = some (.lst (cs0.map V.int)) := by rw [upd_ne dq1]; exact g1
  have k2 : (upd H3 q1 (.dK [])) D2 = some (.lst (acc.map V.int)) := by rw [upd_ne dq2]; exact g3
  have k3 : (upd H3 q1 (.dK [])) q1 = some (.dK []) := upd_same
  generalize upd H3 q1 (.dK []) = H4 at k1 k2 k3 ⊢
  refine ⟨_, rfl, _, rfl, _, rfl, by show 1 ≤ sizeLine; decide, fun q2 nq2 => ?_⟩
  have j1 : D1 ≠ q2 := fun z => by rw [← z, k1] at nq2; cases nq2
  have j2 : D2 ≠ q2 := fun z => by rw [← z, k2] at nq2; cases nq2
  have j3 : q1 ≠ q2 := fun z => by rw [← z, k3] at nq2; cases nq2
  have l1 : (upd H4 q2 (.lst [.int st])) D1 = some (.lst (cs0.map V.int)) := by rw [upd_ne j1]; exact k1
  have l2 : (upd H4 q2 (.lst [.int st])) D2 = some (.lst (acc.map V.int)) := by rw [upd_ne j2]; exact k2
  have l3 : (upd H4 q2 (.lst [.int st])) q1 = some (.dK []) := by rw [upd_ne j3]; exact k3
  have l4 : (upd H4 q2 (.lst [.int st])) q2 = some (.lst [.int st]) := upd_same
  show rCat _ _ (upd H4 q2 (.lst [.int st])) _
  generalize upd H4 q2 (.lst [.int st]) = H5 at l1 l2 l3 l4 ⊢
  refine ⟨D1, q2, _, _, rfl, rfl, l1, l4, ?_, fun q3 nq3 => ?_⟩
  · have hs : sizeLine = 16777216 := sizeLine_eq
    rw [List.length_map, hs, List.length_singleton]; omega
  have o2 : D2 ≠ q3 := fun z => by rw [← z, l2] at nq3; cases nq3
  have o3 : q1 ≠ q3 := fun z => by rw [← z, l3] at nq3; cases nq3
  have r2 : (upd H5 q3 (.lst (cs0.map V.int ++ [.int st]))) D2 = some (.lst (acc.map V.int)) := by rw [upd_ne o2]; exact l2
  have r3 : (upd H5 q3 (.lst (cs0.map V.int ++ [.int st]))) q1 = some (.dK []) := by rw [upd_ne o3]; exact l3
  have r4 : (upd H5 q3 (.lst (cs0.map V.int ++ [.int st]))) q3 = some (.lst ((cs0 ++ [st]).map V.int)) := by rw [upd_same, List.map_append]; rfl
  generalize upd H5 q3 (.lst (cs0.map V.int ++ [.int st])) = H6 at r2 r3 r4 ⊢
  refine ⟨_, rfl, r3, [(.inr "great", .ref D2), (.inr "cells", .ref q3), (.inr "stirred", .int st), (.inr "count", .int 0)], rfl, by show 4 ≤ 15; decide, ?_⟩
  refine hq q1 D2 q3 (cs0 ++ [st]) st _ (Ne.symm dq2) o3 o2 (by simp) (by rw [List.length_append, List.length_singleton]; omega) ⟨⟨acc, 0, Int.le_refl _, by omega, upd_same, by rw [upd_ne dq2]; exact r2⟩, by rw [upd_ne (Ne.symm o3)]; exact r4⟩
end
end K84
set_option Elab.async false
set_option linter.all false
set_option maxRecDepth 100000
set_option maxHeartbeats 4000000
namespace K84
open PySem PySem.Spec PyProof.Rows L2 VI
def tailB : CB → CB
  | .cons _ r => r
  | .nil => .nil
theorem ckL : chkB (tailB cb_law) (baseC N_law (defScope st_law) (fsA.take 17) ks_law ky_law) [] (List.replicate N_law.length false) [] (defBody st_law).tail = true := by kernel_rfl
def spLaw (K : PySem.W.Frag) : Sp := fun xs H Q _ => ∃ (a : Addr) (ns : List Int), xs = [.ref a] ∧ SqL K H a (ns.map V.int) ∧ ns.length ≤ 63 ∧ ∀ H', Q (.bl true) H'
section
variable {P : Program} {w : World} {K : PySem.W.Frag} {mg : Str → Option Value} {base : Heap} {f fw : Addr} {fd fdw : FuncData} {RX : RXT} {T : Tb} {k : Nat}
theorem law_ok (F : Fun K "law" "law" st_law f fd) (wf : FnG P w K mg base k fw fdw ["_law_script"] (spWell K)) (mw : mg "_law_well" = some (.ref fw)) (kw : PySem.W.keepIn K (.ref fw) = true) (bw : Binds K fdw ["_law_script"] []) (k5 : 5 ≤ k)
    (M : ∀ (dk g c : Addr) (cs : List Int) (st : Int), dk ≠ g → dk ≠ c → g ≠ c → cs ≠ [] → cs.length ≤ 100 → MF (wellW "great" "cells" "stirred" "count" dk g c cs st) RX T P w K mg base k (fsA.take 17) ks_law ky_law)
    (hv : wB T (tailB cb_law) (none :: some .deck :: List.replicate 4 none) ⟨fun _ => False, fun d => d = .bl true, fun _ => False, fun _ => False, noX⟩) : FnG P w K mg base (k + 1) f fd ["_law_script"] (spLaw K) := by
  refine gn_of F sc_law (fun xs h q e ⟨a, ns, e1, _⟩ => by rw [e1]; rfl) fun cdv B fr s h xs q e gd hr hs => ?_
  obtain ⟨a, ns, rfl, hS, hnl, hq⟩ := hs
  have nd := sc_law.nd
  have ps : Passes (L2.CX P w) (cxOf (L2.CX P w) P w K mg base N_law "law" (defScope st_law) f cdv B fr s h e) e := passes_call (takes_of rfl rfl rfl rfl) fun _ _ _ _ z => z
  refine ⟨_, pss_cons (ps_set (i := 1) nd rfl (.inl rfl) (pe_callG wf gd hr rfl mw kw bw ps (pa_cons (pv 0) pa_nil) rfl rfl rfl)) (t := _) (u := fun D σ H => ∃ t, PSs (cxOf (L2.CX P w) P w K mg base N_law "law" (defScope st_law) f cdv B fr s h e) (defBody st_law).tail t ∧ t D σ H) ⟨fun pins s σ H D I ⟨t, pt, hh⟩ => pt.run pins s σ H D I hh⟩, ?_⟩
  refine ⟨_, rfl, a, ns, rfl, hS, hnl, fun dk g c cs st H' n1 n2 n3 h1 h2 ok => ?_⟩
  have XFF := xf_of (E := e) (fr := fr) (H := h) (s := s) (f := f) (cdv := cdv) (M dk g c cs st n1 n2 n3 h1 h2) sc_law gd hr k5
  obtain ⟨t, pt, ht⟩ := sndB (wellW "great" "cells" "stirred" "count" dk g c cs st) RX T k (tailB cb_law) XFF (passes_of rfl) [] (List.replicate N_law.length false) [] _ ckL
  refine ⟨t, pt, ht (fun _ => none) H' (fun _ => none) H' _ (none :: some .deck :: List.replicate 4 none) _ _ XH.no ?_ hv ⟨fun _ env σ P1 H1 n sr => n.elim, fun d v P2 H2 F2 hd r => ?_, fun _ _ _ _ z => z.elim, fun _ _ _ _ z => z.elim⟩⟩
  · have hp : HP (wellW "great" "cells" "stirred" "count" dk g c cs st) (fun _ => none) H' := ⟨(fun _ _ z => nomatch z), (fun _ z => absurd rfl z), ok⟩
    have no : ∀ i, own (List.replicate N_law.length false) i = false := fun i => by
      unfold own
      rw [List.getD_eq_getElem?_getD, List.getElem?_replicate]
      split <;> rfl
    refine ⟨ok, .refl hp, rfl, fun i d _ _ he => ?_, fun i d _ hb => ?_, fun i d ho => ?_, fun i j d e a ho => ?_⟩
    · match i, he with
      | 1, he =>
        cases he
        exact ⟨_, rfl, by simp only [R]; rfl⟩
      | 0, he => cases he
      | 2, he => cases he
      | 3, he => cases he
      | 4, he => cases he
      | 5, he => cases he
      | i + 6, he => simp at he
    · have hb : own [] i = true := hb
      cases hb
    · rw [no] at ho; cases ho
    · rw [no] at ho; cases ho
  · have hd : d = .bl true := hd
    subst hd
    have hv : v = .bl true := by simpa only [R] using r.r
    rw [hv]
    exact hq H2
end
end K84
set_option Elab.async false
set_option linter.all false
set_option maxRecDepth 100000
set_option maxHeartbeats 4000000
namespace K84
open PySem PySem.Spec PyProof.Rows L2 VI
def pl (row lot : List Nat) : List Nat := (row.zipIdx.filter fun p => decide (p.1 ∈ lot)).map (·.2)
def isRun (row lot : List Nat) : Bool := decide (((((pl row lot).getLastD 0 : Nat) : Int) - ((pl row lot).headD 0 : Nat) + 1) = (lot.length : Nat))
def fiStretch : FI := ⟨[true, false], 0, fun ds post _ => ∃ rs lot, ds = [ttD rs, tD lot] ∧ rs.length ≤ 12 ∧ (∀ row ∈ rs, okL row) ∧ okL lot ∧ (lot ≠ [] → ∀ row ∈ rs, ∃ x ∈ row, x ∈ lot) ∧ post (.bl (decide (lot ≠ []) && rs.all fun row => isRun row lot))⟩
theorem v_stretch {T : Tb} (ds : List D) (post : D → Prop) (ex : XD → Prop) (h : fiStretch.sp ds post ex) : wB T cb_is_stretch (startE 6 ds) ⟨fun _ => post .non, post, fun _ => False, fun _ => False, ex⟩ := by
  obtain ⟨rs, lot, rfl, b1, b2, b3, hm, hp⟩ := h
  simp only [cb_is_stretch, wB, wS, wE, wL]
  refine ⟨tD lot, rfl, Nat.zero_le _, fit_t b3, fit_t okL_nil, _, rfl, ?_⟩
  have e0 : eqD (tD lot) (.tup []) = decide (lot = []) := eqD_t lot []
  by_cases hl : lot = []
  · subst hl
    exact hp
  rw [if_neg (by rw [e0, decide_eq_true_eq]; exact hl)]
  refine ⟨ttD rs, rfl, rs.map tD, rfl, ?_⟩
  have hp' : post (.bl (rs.all fun row => isRun row lot)) := by
    rw [decide_eq_true (show lot ≠ [] from hl), Bool.true_and] at hp
    exact hp
  refine goF_inv (fun i env => ∃ a b c d, env = [some (ttD rs), some (tD lot), a, b, c, d] ∧ ∀ row ∈ rs.take i, isRun row lot = true) _ 0 _ _ ⟨none, none, none, none, rfl, fun row h => nomatch h⟩ ?_ ?_
  · rintro i d env hd ⟨a, b, c, d', rfl, hI⟩
    rw [Nat.zero_add] at hI ⊢
    rw [List.getElem?_map] at hd
    obtain ⟨row, hrow, rfl⟩ := Option.map_eq_some_iff.mp hd
    have hmem : row ∈ rs := List.mem_of_getElem? hrow
    refine ⟨_, rfl, fun E' nx ct rt ex' bk => ?_⟩
    refine ⟨tD row, rfl, row.map nD, rfl, ?_, ?_⟩
    · rw [List.length_map, List.length_zipIdx, List.length_map]; have := (b2 row hmem).1; omega
    refine goLc_fun (fun d => match d with | .tup [_, y] => (lot.map nD).any (fun z => eqD z y) | _ => false) (fun d => match d with | .tup [i, _] => i | _ => .non) _ _ _ ?_ ?_
    · intro d hd
      obtain ⟨⟨y, j⟩, hy, rfl⟩ := List.mem_map.mp hd
      have hy2 : y ∈ row.map nD := by
        have := List.fst_mem_of_mem_zipIdx hy
        exact this
      obtain ⟨x, hx, rfl⟩ := List.mem_map.mp hy2
      refine ⟨_, rfl, fun p hp => ⟨nD x, rfl, tD lot, rfl, fit_n ((b2 row hmem).2 x hx), fit_t b3, _, rfl, ?_⟩, fun _ p hp => ⟨.int (j : Nat), rfl, hp⟩⟩
      rw [Bool.false_xor]
      exact hp
    have hys : (((row.map nD).zipIdx.map fun p => D.tup [.int (p.2 : Nat), p.1]).filter fun d => match d with | .tup [_, y] => (lot.map nD).any (fun z => eqD z y) | _ => false).map (fun d => match d with | .tup [i, _] => i | _ => .non) = (pl row lot).map nD := by
      unfold pl
      rw [List.filter_map, List.map_map, List.map_map, List.zipIdx_map, List.filter_map, List.map_map]
      have hf : row.zipIdx.filter (((fun d => match d with | D.tup [_, y] => (lot.map nD).any (fun z => eqD z y) | _ => false) ∘ fun p => D.tup [.int (p.2 : Nat), p.1]) ∘ Prod.map nD id) = row.zipIdx.filter (fun p => decide (p.1 ∈ lot)) := List.filter_congr fun p _ => any_nat lot p.1
      rw [hf]
      rfl
    rw [List.nil_append, hys]
    obtain ⟨x, hx1, hx2⟩ := hm hl row hmem
    have hne : pl row lot ≠ [] := by
      intro z
      unfold pl at z
      rw [List.map_eq_nil_iff, List.filter_eq_nil_iff] at z
      obtain ⟨j, hj⟩ := List.getElem?_of_mem hx1
      have := z (x, j) (List.mem_zipIdx_iff_getElem?.mpr hj)
      simp only [decide_eq_true_eq] at this
      exact this hx2
    obtain ⟨q, l, hq⟩ : ∃ q l, pl row lot = q ++ [l] := ⟨_, _, (List.dropLast_concat_getLast hne).symm⟩
    obtain ⟨f, r, hr⟩ : ∃ f r, pl row lot = f :: r := by
      cases e : pl row lot with
      | nil => exact absurd e hne
      | cons f r => exact ⟨f, r, rfl⟩
    refine ⟨_, rfl, 1, rfl, nD l, ?_, _, rfl, nD f, ?_, ?_⟩
    · rw [hq, List.map_append]; exact atI_last
    · rw [hr]; exact atI_zero
    refine ⟨tD lot, rfl, ?_⟩
    have hrun : isRun row lot = decide ((l : Int) - (f : Int) + 1 = (lot.length : Nat)) := by
      unfold isRun
      rw [show (pl row lot).getLastD 0 = l from by rw [hq]; simp, show (pl row lot).headD 0 = f from by rw [hr]; rfl]
    show ∃ c, D.bl (!decide ((l : Int) - (f : Int) + 1 = ((lot.map nD).length : Nat))) = .bl c ∧ if c = true then E'.rt (.bl false) else E'.nx _
    rw [List.length_map, ← hrun]
    refine ⟨_, rfl, ?_⟩
    cases hb : isRun row lot with
    | false =>
      rw [if_pos (by rfl), rt]
      have : rs.all (fun row => isRun row lot) = false := by
        rw [List.all_eq_false]
        exact ⟨row, hmem, by rw [hb]; exact Bool.false_ne_true⟩
      rw [this] at hp'
      exact hp'
    | true =>
      rw [if_neg (by decide)]
      refine nx _ ⟨_, _, _, _, rfl, fun row' h' => ?_⟩
      rw [List.take_add_one, hrow] at h'
      rcases List.mem_append.mp h' with z | z
      · exact hI row' z
      · have : row' = row := by simpa using z
        rw [this]; exact hb
  · rintro env ⟨a, b, c, d, rfl, hI⟩
    have : rs.all (fun row => isRun row lot) = true := List.all_eq_true.mpr fun row h => hI row (by
      rw [Nat.zero_add, List.length_map, List.take_length]; exact h)
    rw [this] at hp'
    exact hp'
end K84
set_option Elab.async false
set_option linter.all false
set_option maxRecDepth 100000
set_option maxHeartbeats 4000000
namespace K84
open PySem PySem.Spec PyProof.Rows L2 VI
def E0 (post : D → Prop) (ex : XD → Prop) : En := ⟨fun _ => post .non, post, fun _ => False, fun _ => False, ex⟩
def fiKey : FI := ⟨[true], 0, fun ds post _ => ∃ l, ds = [tD l] ∧ okL l ∧ post (.tup [nD l.length, tD l])⟩
def fiPick : FI := ⟨[true, false], 0, fun ds post _ => ∃ x es, ds = [.deck, x] ∧ seqD x = some es ∧ es ≠ [] ∧ es.length < 100000 ∧ ∀ e ∈ es, post e⟩
def fiMixed : FI := ⟨[true, false], 0, fun ds post _ => ∃ x es, ds = [.deck, x] ∧ seqD x = some es ∧ es.length ≤ 1000 ∧ ∀ ys : List D, ys.Perm es → post (.lst ys)⟩
theorem len_seq {x : D} {es : List D} {post : D → Prop} (h : seqD x = some es) (hp : post (.int (es.length : Nat))) : Blt.len.w [x] post := by
  cases x with
  | tup ds => cases h; exact hp
  | lst ds => cases h; exact hp
  | _ => cases h
theorem ix_seq {x y : D} {es : List D} {i : Int} {post : D → Prop} (h : seqD x = some es) (hi : atI es i = some y) (hp : post y) : wIx x (.int i) post := by
  cases x with
  | tup ds => cases h; exact ⟨y, hi, hp⟩
  | lst ds => cases h; exact ⟨y, hi, hp⟩
  | _ => cases h
theorem v_key (T : Tb) (ds : List D) (post : D → Prop) (ex : XD → Prop) (h : fiKey.sp ds post ex) : wB T cb__lot_key (startE 1 ds) (E0 post ex) := by
  obtain ⟨l, rfl, h1, hp⟩ := h
  simp only [cb__lot_key, wB, wS, wE, wL]
  refine ⟨tD l, rfl, len_seq (es := l.map nD) rfl ⟨tD l, rfl, by show 2 ≤ sizeLine; decide, ?_⟩⟩
  rw [List.length_map]; exact hp
theorem v_pick (T : Tb) (hT : T.fs[4]? = some drawFI) (ds : List D) (post : D → Prop) (ex : XD → Prop) (h : fiPick.sp ds post ex) : wB T cb__law_pick (startE 2 ds) (E0 post ex) := by
  obtain ⟨x, es, rfl, hs, hne, hl, hp⟩ := h
  simp only [cb__law_pick, wB, wS, wE, wL]
  refine ⟨x, rfl, .deck, rfl, x, rfl, len_seq hs ⟨drawFI, hT, (es.length : Nat), rfl, by omega, fun i i0 hi => ?_⟩⟩
  have h0 : 0 < es.length := by cases es with
    | nil => exact absurd rfl hne
    | cons _ _ => exact Nat.succ_pos _
  have hlt : i < (es.length : Nat) := by rcases hi with z | ⟨_, z⟩ <;> omega
  have hn : i.toNat < es.length := by omega
  refine ix_seq hs (y := es[i.toNat]) ?_ (hp _ (List.getElem_mem hn))
  rw [atI_pos i0 hlt, List.getElem?_eq_getElem hn]
theorem v_mixed (T : Tb) (hT : T.fs[4]? = some drawFI) (ds : List D) (post : D → Prop) (ex : XD → Prop) (h : fiMixed.sp ds post ex) : wB T cb__law_mixed (startE 5 ds) (E0 post ex) := by
  obtain ⟨x, es, rfl, hs, hl, hp⟩ := h
  simp only [cb__law_mixed, wB, wS, wE, wL]
  refine ⟨x, rfl, ?_⟩
  have lst : ∀ p : D → Prop, p (.lst es) → Blt.list.w [x] p := fun p hq => by
    cases x with
    | tup ds => cases hs; exact hq
    | lst ds => cases hs; exact hq
    | _ => cases hs
  refine lst _ ⟨by decide, x, rfl, len_seq hs ⟨by omega, by omega, ?_⟩⟩
  refine goF_inv (fun i env => ∃ t left found, env = [some .deck, some x, t, some (.lst left), some (.lst found)] ∧ (found ++ left).Perm es ∧ found.length = i) _ 0 _ _ ⟨none, es, [], rfl, .refl _, rfl⟩ ?_ ?_
  · rintro i d env hd ⟨t, left, found, rfl, hperm, hlen⟩
    rw [Nat.zero_add] at hlen ⊢
    have hi : i < es.length := by
      have := (List.getElem?_eq_some_iff.mp hd).1
      rw [List.length_map, List.length_range] at this
      omega
    have htot := hperm.length_eq
    rw [List.length_append] at htot
    refine ⟨_, rfl, fun E' nx ct rt ex' bk => ?_⟩
    refine ⟨found, left, rfl, rfl, by rw [sizeLine_eq]; omega, line_of' (by omega), .deck, rfl, .lst left, rfl, len_seq rfl ⟨drawFI, hT, (left.length : Nat), rfl, by omega, fun j j0 hj => ?_⟩⟩
    have hjl : j.toNat < left.length := by rcases hj with z | ⟨_, z⟩ <;> omega
    refine ⟨j, left[j.toNat], rfl, j0, List.getElem?_eq_getElem hjl, nx _ ⟨_, _, _, rfl, ?_, by rw [List.length_append, hlen]; rfl⟩⟩
    refine List.Perm.trans ?_ hperm
    rw [List.append_assoc]
    refine List.Perm.append_left found ?_
    show (left[j.toNat] :: left.eraseIdx j.toNat).Perm left
    rw [List.eraseIdx_eq_take_drop_succ]
    refine List.perm_middle.symm.trans ?_
    rw [← List.drop_eq_getElem_cons hjl, List.take_append_drop]
  · rintro env ⟨t, left, found, rfl, hperm, hlen⟩
    rw [Nat.zero_add, List.length_map, List.length_range] at hlen
    have htot := hperm.length_eq
    rw [List.length_append] at htot
    have : left = [] := List.eq_nil_of_length_eq_zero (by omega)
    subst this
    rw [List.append_nil] at hperm
    exact ⟨_, rfl, hp found hperm⟩
end K84
set_option Elab.async false
set_option linter.all false
set_option maxRecDepth 100000
set_option maxHeartbeats 4000000
namespace K84
open PySem PySem.Spec PyProof.Rows L2 VI
theorem perm_map {α β : Type} {f : α → β} {ys xs : List β} (h : ys.Perm xs) : ∀ l : List α, xs = l.map f → ∃ l' : List α, ys = l'.map f ∧ l'.Perm l := by
  induction h with
  | nil => intro l e; exact ⟨l, e, .refl _⟩
  | cons x _ ih =>
    intro l e
    cases l with
    | nil => cases e
    | cons a l =>
      rw [List.map_cons] at e
      injection e with e1 e2
      obtain ⟨l', e3, p⟩ := ih l e2
      exact ⟨a :: l', by rw [List.map_cons, e1, e3], .cons a p⟩
  | swap x y t =>
    intro l e
    match l, e with
    | a :: b :: l, e =>
      rw [List.map_cons, List.map_cons] at e
      injection e with e1 e2
      injection e2 with e2 e3
      exact ⟨b :: a :: l, by rw [List.map_cons, List.map_cons, e1, e2, e3], .swap a b l⟩
  | trans _ _ ih1 ih2 =>
    intro l e
    obtain ⟨l1, e1, p1⟩ := ih2 l e
    obtain ⟨l2, e2, p2⟩ := ih1 l1 e1
    exact ⟨l2, e2, p2.trans p1⟩
section
variable {α : Type} {xs : List α} {b e : Nat}
theorem cut_to (h : b ≤ xs.length) : cutL xs none (some (b : Int)) = xs.take b := by
  unfold cutL
  rw [HT.sIx_nat, HT.sIx_none, List.drop_zero, Nat.sub_zero, Nat.min_eq_left h]
theorem cut_from (h : b ≤ xs.length) : cutL xs (some (b : Int)) none = xs.drop b := by
  unfold cutL
  rw [HT.sIx_nat, HT.sIx_none, Nat.min_eq_left h]
  exact List.take_of_length_le (by rw [List.length_drop]; exact Nat.le_refl _)
theorem cut_mid (h : b ≤ xs.length) (h' : e ≤ xs.length) : cutL xs (some (b : Int)) (some (e : Int)) = (xs.drop b).take (e - b) := by
  unfold cutL
  rw [HT.sIx_nat, HT.sIx_nat, Nat.min_eq_left h, Nat.min_eq_left h']
end
theorem turned_perm (r : List Nat) (b e : Nat) (h : b ≤ e) : (r.take b ++ ((r.drop b).take (e - b)).reverse ++ r.drop e).Perm r := by
  have h1 : (r.take b ++ (r.drop b).take (e - b) ++ r.drop e) = r := by
    have e1 : r.drop e = (r.drop b).drop (e - b) := by rw [List.drop_drop]; congr 1; omega
    rw [e1, List.append_assoc, List.take_append_drop, List.take_append_drop]
  refine List.Perm.trans ?_ (List.Perm.of_eq h1)
  exact ((List.reverse_perm _).append_left _).append_right _
def fiRows : FI := ⟨[true, true, false], 0, fun ds post _ => ∃ n m : Nat, ds = [.deck, nD n, nD m] ∧ n ≤ 10 ∧ 1 ≤ n ∧ 1 ≤ m ∧ m ≤ 10 ∧ ∀ rs : List (List Nat), rs.length = m → (∀ row ∈ rs, row.Perm (List.range n)) → post (ttD rs)⟩
theorem rng_n (n : Nat) : rngD 0 (n : Int) = (List.range n).map nD := by rw [rng_map, Int.toNat_natCast]; rfl
theorem v_rows (T : Tb) (h4 : T.fs[4]? = some drawFI) (h5 : T.fs[5]? = some fiPick) (h6 : T.fs[6]? = some fiMixed) (ds : List D) (post : D → Prop) (ex : XD → Prop) (h : fiRows.sp ds post ex) : wB T cb__law_rows (startE 9 ds) (E0 post ex) := by
  obtain ⟨n, m, rfl, hn, n1, m1, hm, hp⟩ := h
  simp only [cb__law_rows, wB, wS, wE, wL]
  refine ⟨.deck, rfl, nD n, rfl, n, rfl, by omega, by omega, ?_⟩
  rw [if_neg (by decide)]
  refine ⟨fiMixed, h6, .lst (rngD 0 n), rngD 0 n, rfl, rfl, ?_, fun ys hys => ?_⟩
  · rw [rng_n, List.length_map, List.length_range]; omega
  rw [rng_n] at hys
  obtain ⟨r0, rfl, p0⟩ := perm_map hys _ rfl
  have l0 : r0.length = n := by rw [p0.length_eq, List.length_range]
  refine ⟨by show 1 ≤ sizeLine; decide, nD m, rfl, ?_⟩
  show wBin .Sub (nD m) (.int 1) _
  refine ⟨by omega, by omega, ?_⟩
  refine goF_inv (fun i env => ∃ a b c d e rs, env = [some .deck, some (nD n), some (nD m), some (ltD rs), a, b, c, d, e] ∧ rs.length = i + 1 ∧ ∀ row ∈ rs, row.Perm (List.range n)) _ 0 _ _ ⟨none, none, none, none, none, [r0], rfl, rfl, fun row hr => by
    have : row = r0 := by simpa using hr
    rw [this]; exact p0⟩ ?_ ?_
  · rintro i d env hd ⟨a, b, c, d', e, rs, rfl, hlen, hall⟩
    rw [Nat.zero_add] at hlen ⊢
    have hi : i < m := by
      have := (List.getElem?_eq_some_iff.mp hd).1
      rw [List.length_map, List.length_range] at this
      omega
    refine ⟨_, rfl, fun E' nx ct rt ex' bk => ?_⟩
    refine ⟨.deck, rfl, ltD rs, rfl, fiPick, h5, ltD rs, rs.map tD, rfl, rfl, ?_, ?_, fun x hx => ?_⟩
    · cases rs with
      | nil => cases hlen
      | cons _ _ => exact fun z => nomatch z
    · rw [List.length_map]; omega
    obtain ⟨r, hr, rfl⟩ := List.mem_map.mp hx
    have pr := hall r hr
    refine ⟨.deck, rfl, by show 5 ≤ sizeLine; decide, fiPick, h5, .lst [.int 0, .int 1, .int 1, .int 2, .int 3], [.int 0, .int 1, .int 1, .int 2, .int 3], rfl, rfl, fun z => (nomatch z), by decide, fun y hy => ?_⟩
    obtain ⟨k, hk, rfl⟩ : ∃ k : Nat, k ≤ 3 ∧ y = nD k := by
      simp only [List.mem_cons, List.not_mem_nil, or_false] at hy
      rcases hy with z | z | z | z | z <;> subst z
      · exact ⟨0, by omega, rfl⟩
      · exact ⟨1, by omega, rfl⟩
      · exact ⟨1, by omega, rfl⟩
      · exact ⟨2, by omega, rfl⟩
      · exact ⟨3, by omega, rfl⟩
    show wSrc .rng1 [.int (k : Nat)] _
    refine ⟨by omega, by omega, ?_⟩
    refine goF_inv (fun j env => ∃ f g h' q, env = [some .deck, some (nD n), some (nD m), some (ltD rs), some d, some (lD q), f, g, h'] ∧ q.Perm (List.range n)) _ 0 _ _ ⟨c, d', e, r, rfl, pr⟩ ?_ ?_
    · rintro j d2 env hd2 ⟨f, g, h', q, rfl, pq⟩
      have lq : q.length = n := by rw [pq.length_eq, List.length_range]
      refine ⟨_, rfl, fun E2 nx2 ct2 rt2 ex2 bk2 => ?_⟩
      refine ⟨.deck, rfl, nD n, rfl, drawFI, h4, (n : Nat), rfl, by omega, fun bi b0 bl => ?_⟩
      obtain ⟨b, rfl⟩ : ∃ b : Nat, bi = b := ⟨bi.toNat, by omega⟩
      have hb : b < n := by rcases bl with z | ⟨_, z⟩ <;> omega
      refine ⟨_, rfl, ?_⟩
      refine ⟨.deck, rfl, nD n, rfl, .int b, rfl, ?_⟩
      refine ⟨drawFI, h4, (n : Int) - b, rfl, by omega, fun ei e0 el => ?_⟩
      obtain ⟨e', rfl⟩ : ∃ e' : Nat, ei = e' := ⟨ei.toNat, by omega⟩
      have he : b + 1 + e' ≤ n := by rcases el with z | ⟨_, z⟩ <;> omega
      refine ⟨lD q, rfl, .int b, rfl, b, rfl, ?_⟩
      rw [if_pos trivial]
      refine ⟨lD q, rfl, .int b, rfl, b, rfl, .int (b + 1 + e'), rfl, _, rfl, ?_⟩
      rw [if_pos trivial]
      have ee : ((b : Int) + 1 + e') = ((b + 1 + e' : Nat) : Int) := by omega
      have lm : (q.map nD).length = n := by rw [List.length_map, lq]
      rw [ee]
      simp only [wSlL, lD]
      rw [cut_to (by omega), cut_mid (by omega) (by omega)]
      refine ⟨?_, lD q, rfl, .int ((b + 1 + e' : Nat) : Int), rfl, _, rfl, ?_⟩
      · rw [List.length_reverse, List.length_take, List.length_take, List.length_drop, sizeLine_eq]; omega
      rw [if_pos trivial]
      simp only [wSlL, lD]
      rw [cut_from (by omega)]
      refine ⟨?_, nx2 _ ⟨some d2, some (.int (b : Int)), some (.int ((b + 1 + e' : Nat) : Int)), _, ?_, (turned_perm q b (b + 1 + e') (by omega)).trans pq⟩⟩
      · rw [List.length_append, List.length_reverse, List.length_take, List.length_take, List.length_drop, List.length_drop, sizeLine_eq]; omega
      · unfold lD
        rw [List.map_append, List.map_append, List.map_reverse, List.map_take, List.map_take, List.map_drop, List.map_drop]
        rfl
    · rintro env ⟨f, g, h', q, rfl, pq⟩
      have lq : q.length = n := by rw [pq.length_eq, List.length_range]
      have fin : ∀ q' : List Nat, q'.Perm (List.range n) → E'.nx [some .deck, some (nD n), some (nD m), some (ltD (rs ++ [q'])), some d, some (lD q), f, g, h'] := fun q' pq' =>
        nx _ ⟨_, _, _, _, _, rs ++ [q'], rfl, by rw [List.length_append, hlen]; rfl, fun row hr => by
          rcases List.mem_append.mp hr with z | z
          · exact hall row z
          · have : row = q' := by simpa using z
            rw [this]; exact pq'⟩
      refine ⟨rs.map tD, rfl, by rw [List.length_map, hlen, sizeLine_eq]; omega, .deck, rfl, drawFI, h4, 6, rfl, by decide, fun z z0 hz => ?_⟩
      have app : ∀ q' : List Nat, (rs.map tD ++ [tD q']) = (rs ++ [q']).map tD := fun q' => by rw [List.map_append]; rfl
      refine ⟨decide (z = 0), rfl, ?_⟩
      by_cases hz0 : z = 0
      · rw [if_pos (decide_eq_true hz0)]
        refine ⟨.deck, rfl, lD q, rfl, fiMixed, h6, lD q, q.map nD, rfl, rfl, by rw [List.length_map]; omega, fun ys hys => ?_⟩
        obtain ⟨q', rfl, p'⟩ := perm_map hys _ rfl
        have := fin q' (p'.trans pq)
        unfold ltD at this
        rw [← app] at this
        exact this
      · rw [if_neg (by rw [decide_eq_true_eq]; exact hz0)]
        have := fin q pq
        unfold ltD at this
        rw [← app] at this
        exact ⟨lD q, rfl, this⟩
  · rintro env ⟨a, b, c, d, e, rs, rfl, hlen, hall⟩
    rw [Nat.zero_add, List.length_map, List.length_range] at hlen
    refine ⟨ltD rs, rfl, ?_⟩
    refine hp rs (by omega) hall
end K84
set_option Elab.async false
set_option linter.all false
set_option maxRecDepth 100000
set_option maxHeartbeats 4000000
namespace K84
open PySem PySem.Spec PyProof.Rows L2 VI
def fiIsRun : FI := ⟨[true, false], 0, fun ds post _ => ∃ rs lot, ds = [ttD rs, tD lot] ∧ rs.length ≤ 12 ∧ (∀ row ∈ rs, okL row) ∧ okL lot ∧ (∀ row ∈ rs, ∃ x ∈ row, x ∈ lot) ∧ post (.bl (rs.all fun row => isRun row lot))⟩
theorem v_isrun {T : Tb} (ds : List D) (post : D → Prop) (ex : XD → Prop) (h : fiIsRun.sp ds post ex) : wB T cb__law_is_run (startE 6 ds) (E0 post ex) := by
  obtain ⟨rs, lot, rfl, b1, b2, b3, hm, hp'⟩ := h
  simp only [cb__law_is_run, wB, wS, wE, wL]
  refine ⟨ttD rs, rfl, rs.map tD, rfl, ?_⟩
  refine goF_inv (fun i env => ∃ a b c d, env = [some (ttD rs), some (tD lot), a, b, c, d] ∧ ∀ row ∈ rs.take i, isRun row lot = true) _ 0 _ _ ⟨none, none, none, none, rfl, fun row h => nomatch h⟩ ?_ ?_
  · rintro i d env hd ⟨a, b, c, d', rfl, hI⟩
    rw [Nat.zero_add] at hI ⊢
    rw [List.getElem?_map] at hd
    obtain ⟨row, hrow, rfl⟩ := Option.map_eq_some_iff.mp hd
    have hmem : row ∈ rs := List.mem_of_getElem? hrow
    refine ⟨_, rfl, fun E' nx ct rt ex' bk => ?_⟩
    refine ⟨tD row, rfl, row.map nD, rfl, ?_, ?_⟩
    · rw [List.length_map, List.length_zipIdx, List.length_map]; have := (b2 row hmem).1; omega
    refine goLc_fun (fun d => match d with | .tup [_, y] => (lot.map nD).any (fun z => eqD z y) | _ => false) (fun d => match d with | .tup [i, _] => i | _ => .non) _ _ _ ?_ ?_
    · intro d hd
      obtain ⟨⟨y, j⟩, hy, rfl⟩ := List.mem_map.mp hd
      have hy2 : y ∈ row.map nD := by
        have := List.fst_mem_of_mem_zipIdx hy
        exact this
      obtain ⟨x, hx, rfl⟩ := List.mem_map.mp hy2
      refine ⟨_, rfl, fun p hp => ⟨nD x, rfl, tD lot, rfl, fit_n ((b2 row hmem).2 x hx), fit_t b3, _, rfl, ?_⟩, fun _ p hp => ⟨.int (j : Nat), rfl, hp⟩⟩
      rw [Bool.false_xor]
      exact hp
    have hys : (((row.map nD).zipIdx.map fun p => D.tup [.int (p.2 : Nat), p.1]).filter fun d => match d with | .tup [_, y] => (lot.map nD).any (fun z => eqD z y) | _ => false).map (fun d => match d with | .tup [i, _] => i | _ => .non) = (pl row lot).map nD := by
      unfold pl
      rw [List.filter_map, List.map_map, List.map_map, List.zipIdx_map, List.filter_map, List.map_map]
      have hf : row.zipIdx.filter (((fun d => match d with | D.tup [_, y] => (lot.map nD).any (fun z => eqD z y) | _ => false) ∘ fun p => D.tup [.int (p.2 : Nat), p.1]) ∘ Prod.map nD id) = row.zipIdx.filter (fun p => decide (p.1 ∈ lot)) := List.filter_congr fun p _ => any_nat lot p.1
      rw [hf]
      rfl
    rw [List.nil_append, hys]
    obtain ⟨x, hx1, hx2⟩ := hm row hmem
    have hne : pl row lot ≠ [] := by
      intro z
      unfold pl at z
      rw [List.map_eq_nil_iff, List.filter_eq_nil_iff] at z
      obtain ⟨j, hj⟩ := List.getElem?_of_mem hx1
      have := z (x, j) (List.mem_zipIdx_iff_getElem?.mpr hj)
      simp only [decide_eq_true_eq] at this
      exact this hx2
    obtain ⟨q, l, hq⟩ : ∃ q l, pl row lot = q ++ [l] := ⟨_, _, (List.dropLast_concat_getLast hne).symm⟩
    obtain ⟨f, r, hr⟩ : ∃ f r, pl row lot = f :: r := by
      cases e : pl row lot with
      | nil => exact absurd e hne
      | cons f r => exact ⟨f, r, rfl⟩
    refine ⟨_, rfl, 1, rfl, nD l, ?_, _, rfl, nD f, ?_, ?_⟩
    · rw [hq, List.map_append]; exact atI_last
    · rw [hr]; exact atI_zero
    refine ⟨tD lot, rfl, ?_⟩
    have hrun : isRun row lot = decide ((l : Int) - (f : Int) + 1 = (lot.length : Nat)) := by
      unfold isRun
      rw [show (pl row lot).getLastD 0 = l from by rw [hq]; simp, show (pl row lot).headD 0 = f from by rw [hr]; rfl]
    show ∃ c, D.bl (!decide ((l : Int) - (f : Int) + 1 = ((lot.map nD).length : Nat))) = .bl c ∧ if c = true then E'.rt (.bl false) else E'.nx _
    rw [List.length_map, ← hrun]
    refine ⟨_, rfl, ?_⟩
    cases hb : isRun row lot with
    | false =>
      rw [if_pos (by rfl), rt]
      have : rs.all (fun row => isRun row lot) = false := by
        rw [List.all_eq_false]
        exact ⟨row, hmem, by rw [hb]; exact Bool.false_ne_true⟩
      rw [this] at hp'
      exact hp'
    | true =>
      rw [if_neg (by decide)]
      refine nx _ ⟨_, _, _, _, rfl, fun row' h' => ?_⟩
      rw [List.take_add_one, hrow] at h'
      rcases List.mem_append.mp h' with z | z
      · exact hI row' z
      · have : row' = row := by simpa using z
        rw [this]; exact hb
  · rintro env ⟨a, b, c, d, rfl, hI⟩
    have : rs.all (fun row => isRun row lot) = true := List.all_eq_true.mpr fun row h => hI row (by
      rw [Nat.zero_add, List.length_map, List.take_length]; exact h)
    rw [this] at hp'
    exact hp'

/-- a lot without a thing, the higher ones one less -/
def without (l : List Nat) (t : Nat) : List Nat := (l.filter fun x => decide (x ≠ t)).map fun x => if t < x then x - 1 else x
def fiWithout : FI := ⟨[false, false], 0, fun ds post _ => ∃ l t, ds = [tD l, nD t] ∧ okL l ∧ t < 1000 ∧ post (tD (without l t))⟩
theorem v_without {T : Tb} (ds : List D) (post : D → Prop) (ex : XD → Prop) (h : fiWithout.sp ds post ex) : wB T cb__law_without (startE 3 ds) (E0 post ex) := by
  obtain ⟨l, t, rfl, hl, ht, hp⟩ := h
  simp only [cb__law_without, wB, wS, wE, wL]
  refine ⟨tD l, rfl, l.map nD, rfl, by rw [List.length_map]; have := hl.1; omega, ?_⟩
  refine goLc_fun (fun d => match d with | .int i => !decide (i = (t : Int)) | _ => false) (fun d => match d with | .int i => if (t : Int) < i then .int (i - 1) else .int i | _ => .non) _ _ _ ?_ ?_
  · intro d hd
    obtain ⟨x, hx, rfl⟩ := List.mem_map.mp hd
    refine ⟨_, rfl, fun p hp => ⟨nD x, rfl, nD t, rfl, _, rfl, hp⟩, fun _ p hp => ⟨nD x, rfl, nD t, rfl, decide ((t : Int) < x), rfl, ?_⟩⟩
    by_cases h : (t : Int) < x
    · rw [if_pos (decide_eq_true h)]
      have hp : p (if (t : Int) < x then .int ((x : Int) - 1) else .int x) := hp
      rw [if_pos h] at hp
      exact ⟨nD x, rfl, hp⟩
    · rw [if_neg (by rw [decide_eq_true_eq]; exact h)]
      have hp : p (if (t : Int) < x then .int ((x : Int) - 1) else .int x) := hp
      rw [if_neg h] at hp
      exact ⟨nD x, rfl, hp⟩
  · have e : ((l.map nD).filter fun d => match d with | .int i => !decide (i = (t : Int)) | _ => false).map (fun d => match d with | .int i => if (t : Int) < i then D.int (i - 1) else .int i | _ => .non) = (without l t).map nD := by
      unfold without
      rw [List.filter_map, List.map_map, List.map_map]
      have hf : l.filter ((fun d => match d with | .int i => !decide (i = (t : Int)) | _ => false) ∘ nD) = l.filter fun x => decide (x ≠ t) := List.filter_congr fun x _ => by
        show (!decide ((x : Int) = (t : Int))) = decide (x ≠ t)
        rw [Bool.eq_iff_iff, Bool.not_eq_true', decide_eq_false_iff_not, decide_eq_true_eq]
        omega
      rw [hf]
      refine List.map_congr_left fun x _ => ?_
      show (if (t : Int) < x then D.int ((x : Int) - 1) else .int x) = nD (if t < x then x - 1 else x)
      by_cases h : t < x
      · rw [if_pos h, if_pos (by omega)]
        show D.int ((x : Int) - 1) = .int ((x - 1 : Nat) : Int)
        congr 1; omega
      · rw [if_neg h, if_neg (by omega)]; rfl
    rw [List.nil_append, e]
    exact hp
end K84
set_option Elab.async false
set_option linter.all false
set_option maxRecDepth 100000
set_option maxHeartbeats 4000000
namespace K84
open PySem PySem.Spec PyProof.Rows L2 VI
/-- all parts of a list, in the law's order -/
def subs (l : List Nat) : List (List Nat) := l.foldl (fun acc x => acc ++ acc.map (· ++ [x])) [[]]
theorem subs_snoc (l : List Nat) (x : Nat) : subs (l ++ [x]) = subs l ++ (subs l).map (· ++ [x]) := by
  unfold subs
  rw [List.foldl_append]; rfl
theorem subs_len : ∀ (n : Nat) (l : List Nat), l.length = n → (subs l).length = 2 ^ n
  | 0, l, h => by rw [List.eq_nil_of_length_eq_zero h]; rfl
  | n + 1, l, h => by
    have hne : l ≠ [] := fun z => by rw [z] at h; cases h
    rw [← List.dropLast_concat_getLast hne, subs_snoc, List.length_append, List.length_map, subs_len n _ (by rw [List.length_dropLast, h]; rfl), Nat.pow_succ]
    omega
theorem subs_le : ∀ (n : Nat) (l : List Nat), l.length = n → ∀ q ∈ subs l, q.length ≤ n
  | 0, l, h, q, hq => by
    rw [List.eq_nil_of_length_eq_zero h] at hq
    have : q = [] := List.mem_singleton.mp hq
    rw [this]; exact Nat.le_refl 0
  | n + 1, l, h, q, hq => by
    have hne : l ≠ [] := fun z => by rw [z] at h; cases h
    have ih := subs_le n l.dropLast (by rw [List.length_dropLast, h]; rfl)
    rw [← List.dropLast_concat_getLast hne, subs_snoc] at hq
    rcases List.mem_append.mp hq with h1 | h1
    · exact Nat.le_succ_of_le (ih q h1)
    · obtain ⟨p, hp, rfl⟩ := List.mem_map.mp h1
      rw [List.length_append]
      exact Nat.succ_le_succ (ih p hp)
def fiSubsets : FI := ⟨[true], 0, fun ds post _ => ∃ l, ds = [lD l] ∧ l.length ≤ 8 ∧ post (.lst ((subs l).map lD))⟩
theorem v_subsets {T : Tb} (ds : List D) (post : D → Prop) (ex : XD → Prop) (h : fiSubsets.sp ds post ex) : wB T cb__law_subsets (startE 4 ds) (E0 post ex) := by
  obtain ⟨l, rfl, hl, hp⟩ := h
  simp only [cb__law_subsets, wB, wS, wE, wL]
  refine ⟨by show 0 ≤ sizeLine; exact Nat.zero_le _, by show 1 ≤ sizeLine; decide, lD l, rfl, l.map nD, rfl, ?_⟩
  refine goF_inv (fun i env => ∃ a b, env = [some (lD l), some (.lst ((subs (l.take i)).map lD)), a, b]) _ 0 _ _ ⟨none, none, rfl⟩ ?_ ?_
  · rintro i d env hd ⟨a, b, rfl⟩
    rw [Nat.zero_add]
    rw [List.getElem?_map] at hd
    obtain ⟨x, hx, rfl⟩ := Option.map_eq_some_iff.mp hd
    have hi : i < l.length := (List.getElem?_eq_some_iff.mp hx).1
    have hlen : (subs (l.take i)).length ≤ 256 := by
      rw [subs_len i _ (by rw [List.length_take]; omega)]
      exact Nat.le_trans (Nat.pow_le_pow_right (by decide) (by omega : i ≤ 8)) (by decide)
    refine ⟨_, rfl, fun E' nx ct rt ex' bk => ?_⟩
    refine ⟨_, rfl, _, rfl, _, rfl, by rw [List.length_map]; omega, ?_⟩
    refine goLc_fun (fun _ => true) (fun d => match d with | .lst es => .lst (es ++ [nD x]) | _ => .non) _ _ _ ?_ ?_
    · intro d hd
      obtain ⟨q, hq, rfl⟩ := List.mem_map.mp hd
      refine ⟨_, rfl, fun p hp => hp, fun _ p hp => ⟨lD q, rfl, nD x, rfl, by show 1 ≤ sizeLine; decide, ?_⟩⟩
      refine ⟨?_, hp⟩
      have := subs_le i (l.take i) (by rw [List.length_take]; omega) q hq
      rw [List.length_map, sizeLine_eq]; show q.length + 1 ≤ _; omega
    · rw [List.nil_append, List.filter_eq_self.mpr (fun _ _ => rfl), List.map_map]
      refine ⟨?_, nx _ ⟨some (nD x), b, ?_⟩⟩
      · rw [List.length_map, List.length_map, sizeLine_eq]; omega
      · have e : l.take (i + 1) = l.take i ++ [x] := by rw [List.take_add_one, hx]; rfl
        rw [e, subs_snoc, List.map_append, List.map_map]
        have e2 : (subs (l.take i)).map ((fun d => match d with | .lst es => D.lst (es ++ [nD x]) | _ => .non) ∘ lD) = (subs (l.take i)).map (lD ∘ (· ++ [x])) := List.map_congr_left fun q _ => by
          show D.lst (q.map nD ++ [nD x]) = .lst ((q ++ [x]).map nD)
          rw [List.map_append]; rfl
        rw [e2]
        rfl
  · rintro env ⟨a, b, rfl⟩
    rw [Nat.zero_add, List.length_map, List.take_length]
    exact ⟨_, rfl, hp⟩
end K84
set_option Elab.async false
set_option linter.all false
set_option maxRecDepth 100000
set_option maxHeartbeats 4000000
namespace K84
open PySem PySem.Spec PyProof.Rows L2 VI
theorem bd_Lt {l : List (List Nat)} (h : okR l) : Bd [200, 12] (.lst (l.map tD)) := by
  refine ⟨by rw [List.length_map]; exact h.1, fun d hd => ?_⟩
  obtain ⟨x, hx, rfl⟩ := List.mem_map.mp hd
  exact bd_t (h.2 x hx)
theorem fit_Lt {l : List (List Nat)} (h : okR l) : Fit (.lst (l.map tD)) := ⟨[200, 12], bd_Lt h, by decide, by decide⟩
theorem alike_rank (a b : List Nat) : PySem.W.alike (rankD (tD a)) (rankD (tD b)) = true := by
  unfold rankD
  rw [py_t, py_t]
  simp [PySem.W.alike, PySem.W.alikeAll, alike_ints]
theorem nls_ints : ∀ l : List Int, nls (l.map .int) = true
  | [] => by simp [nls]
  | x :: l => by
    show nls (.int x :: l.map .int) = true
    simp [nls, nl, nls_ints l]
theorem wSortK_t {ls : List (List Nat)} {post : D → Prop} (h : okR ls) (hp : post (.lst ((ls.mergeSort rk).map tD))) : wSortK (.lst (ls.map tD)) post := by
  refine ⟨ls.map tD, rfl, fit_Lt h, ?_, ?_, ?_, ?_⟩
  · intro e he
    obtain ⟨l, hl, rfl⟩ := List.mem_map.mp he
    exact ⟨⟨_, rfl⟩, by rw [py_t]; simp [nl, nls_ints]⟩
  · rw [List.map_map]
    exact PySem.W.AllAlike.of fun a b => alike_rank a b
  · rw [List.map_map]
    exact PySem.W.Sortable.tuples fun l => ⟨_, _, rfl⟩
  · rw [sort_rank]; exact hp
def dueL (n : Nat) (rs : List (List Nat)) : List (List Nat) := (((subs (List.range n)).filter fun q => decide (q ≠ [])).filter fun q => rs.all fun row => isRun row q).mergeSort rk
def fiDue : FI := ⟨[false, true], 0, fun ds post _ => ∃ n rs, ds = [nD n, ttD rs] ∧ n ≤ 6 ∧ rs.length ≤ 12 ∧ (∀ row ∈ rs, row.Perm (List.range n)) ∧ post (.lst ((dueL n rs).map tD))⟩
theorem subs_mem : ∀ (n : Nat) (l : List Nat), l.length = n → ∀ q ∈ subs l, ∀ x ∈ q, x ∈ l
  | 0, l, h, q, hq, x, hx => by
    rw [List.eq_nil_of_length_eq_zero h] at hq
    have : q = [] := List.mem_singleton.mp hq
    rw [this] at hx; cases hx
  | n + 1, l, h, q, hq, x, hx => by
    have hne : l ≠ [] := fun z => by rw [z] at h; cases h
    have ih := subs_mem n l.dropLast (by rw [List.length_dropLast, h]; rfl)
    rw [← List.dropLast_concat_getLast hne, subs_snoc] at hq
    rw [← List.dropLast_concat_getLast hne]
    rcases List.mem_append.mp hq with h1 | h1
    · exact List.mem_append_left _ (ih q h1 x hx)
    · obtain ⟨p, hp, rfl⟩ := List.mem_map.mp h1
      rcases List.mem_append.mp hx with z | z
      · exact List.mem_append_left _ (ih p hp x z)
      · exact List.mem_append_right _ z
theorem v_due {T : Tb} (h9 : T.fs[9]? = some fiIsRun) (h10 : T.fs[10]? = some fiSubsets) (ds : List D) (post : D → Prop) (ex : XD → Prop) (h : fiDue.sp ds post ex) : wB T cb__law_due (startE 5 ds) (E0 post ex) := by
  obtain ⟨n, rs, rfl, hn, b1, b2, hp⟩ := h
  simp only [cb__law_due, wB, wS, wE, wL]
  refine ⟨nD n, rfl, n, rfl, by omega, by omega, ?_⟩
  rw [if_neg (by decide)]
  rw [rng_n]
  have sl : (subs (List.range n)).length ≤ 64 := by
    rw [subs_len n _ List.length_range]
    exact Nat.le_trans (Nat.pow_le_pow_right (by decide) hn) (by decide)
  refine ⟨fiSubsets, h10, List.range n, rfl, by rw [List.length_range]; omega, ?_⟩
  have ok : ∀ q ∈ subs (List.range n), okL q := fun q hq => ⟨Nat.le_trans (subs_le n _ List.length_range q hq) (by omega), fun x hx => by
    have := List.mem_range.mp (subs_mem n _ List.length_range q hq x hx); omega⟩
  refine ⟨(subs (List.range n)).map lD, rfl, by rw [List.length_map]; omega, ?_⟩
  refine goLc_fun (fun d => match d with | .lst es => !es.isEmpty | _ => true) (fun d => match d with | .lst es => .tup es | _ => .non) _ _ _ ?_ ?_
  · intro d hd
    obtain ⟨q, hq, rfl⟩ := List.mem_map.mp hd
    refine ⟨_, rfl, fun p hp => ⟨lD q, rfl, Nat.zero_le _, fit_l (ok q hq), fit_l okL_nil, _, rfl, ?_⟩, fun _ p hp => ⟨lD q, rfl, ?_⟩⟩
    · have e0 : eqD (lD q) (.lst []) = decide (q = []) := eqD_l q []
      rw [e0]
      cases q with
      | nil => exact hp
      | cons x q => exact hp
    · exact hp
  have e1 : (((subs (List.range n)).map lD).filter fun d => match d with | .lst es => !es.isEmpty | _ => true).map (fun d => match d with | .lst es => D.tup es | _ => .non) = ((subs (List.range n)).filter fun q => decide (q ≠ [])).map tD := by
    rw [List.filter_map, List.map_map]
    have : (subs (List.range n)).filter ((fun d => match d with | D.lst es => !es.isEmpty | _ => true) ∘ lD) = (subs (List.range n)).filter fun q => decide (q ≠ []) := List.filter_congr fun q _ => by
      cases q <;> rfl
    rw [this]; rfl
  rw [List.nil_append, e1]
  refine ⟨_, rfl, ?_⟩
  refine ⟨((subs (List.range n)).filter fun q => decide (q ≠ [])).map tD, rfl, ?_, ?_⟩
  · rw [List.length_map]; exact Nat.le_trans (List.length_filter_le _ _) (by omega)
  refine goLc_fun (fun d => match d with | .tup es => rs.all fun row => isRun row (es.map fun e => match e with | .int i => i.toNat | _ => 0) | _ => true) (fun d => d) _ _ _ ?_ ?_
  · intro d hd
    obtain ⟨q, hq, rfl⟩ := List.mem_map.mp hd
    obtain ⟨hq1, hq2⟩ := List.mem_filter.mp hq
    have hq3 : q ≠ [] := of_decide_eq_true hq2
    refine ⟨_, rfl, fun p hp => ⟨ttD rs, rfl, tD q, rfl, fiIsRun, h9, rs, q, rfl, b1, ?_, ok q hq1, ?_, _, rfl, ?_⟩, fun _ p hp => ⟨tD q, rfl, hp⟩⟩
    · intro row hr
      exact ⟨by rw [(b2 row hr).length_eq, List.length_range]; omega, fun x hx => by have := List.mem_range.mp ((b2 row hr).mem_iff.mp hx); omega⟩
    · intro row hr
      cases q with
      | nil => exact absurd rfl hq3
      | cons x q => exact ⟨x, (b2 row hr).mem_iff.mpr (subs_mem n _ List.length_range _ hq1 x List.mem_cons_self), List.mem_cons_self⟩
    · have e3 : (q.map nD).map (fun e => match e with | D.int i => i.toNat | _ => 0) = q := by
        rw [List.map_map]
        exact (List.map_congr_left fun x _ => rfl).trans (List.map_id q)
      have hp2 : p (rs.all fun row => isRun row ((q.map nD).map fun e => match e with | D.int i => i.toNat | _ => 0)) := hp
      rw [e3] at hp2
      exact hp2
  · have e4 : ((((subs (List.range n)).filter fun q => decide (q ≠ [])).map tD).filter fun d => match d with | .tup es => rs.all fun row => isRun row (es.map fun e => match e with | .int i => i.toNat | _ => 0) | _ => true).map (fun d => d) = (((subs (List.range n)).filter fun q => decide (q ≠ [])).filter fun q => rs.all fun row => isRun row q).map tD := by
      rw [List.map_id', List.filter_map]
      congr 1
      refine List.filter_congr fun q _ => ?_
      show (rs.all fun row => isRun row ((q.map nD).map fun e => match e with | D.int i => i.toNat | _ => 0)) = _
      have e3 : (q.map nD).map (fun e => match e with | D.int i => i.toNat | _ => 0) = q := by
        rw [List.map_map]
        exact (List.map_congr_left fun x _ => rfl).trans (List.map_id q)
      rw [e3]
    rw [List.nil_append, e4]
    refine wSortK_t ⟨?_, ?_⟩ hp
    · exact Nat.le_trans (List.length_filter_le _ _) (Nat.le_trans (List.length_filter_le _ _) (by omega))
    · exact fun q hq => ok q (List.mem_filter.mp (List.mem_filter.mp hq).1).1
end K84
set_option Elab.async false
set_option linter.all false
set_option maxRecDepth 100000
set_option maxHeartbeats 4000000
namespace K84
open PySem PySem.Spec PyProof.Rows L2 VI
def seg (rs : List (List Nat)) (a k : Nat) : List Nat := (((rs.headD []).drop a).take (k + 1)).mergeSort leN
def keep (rs : List (List Nat)) (q : List Nat) : Bool := decide (q ≠ []) && rs.all fun row => isRun row q
def segK (rs : List (List Nat)) (a m : Nat) : List (List Nat) := ((List.range m).map (seg rs a)).filter (keep rs)
/-- segments of the first row that are runs of each row, before the sort -/
def segs (n : Nat) (rs : List (List Nat)) (i : Nat) : List (List Nat) := (List.range i).flatMap fun a => segK rs a (n - a)
def strets (n : Nat) (rs : List (List Nat)) : List (List Nat) := (segs n rs n).mergeSort rk
theorem segK_succ (rs : List (List Nat)) (a m : Nat) : segK rs a (m + 1) = segK rs a m ++ if keep rs (seg rs a m) = true then [seg rs a m] else [] := by
  unfold segK
  rw [List.range_succ, List.map_append, List.filter_append]
  congr 1
  rw [List.map_singleton, List.filter_cons, List.filter_nil]
theorem segs_succ (n : Nat) (rs : List (List Nat)) (i : Nat) : segs n rs (i + 1) = segs n rs i ++ segK rs i (n - i) := by
  unfold segs
  rw [List.range_succ, List.flatMap_append]
  simp
theorem segK_len (rs : List (List Nat)) (a m : Nat) : (segK rs a m).length ≤ m := by
  unfold segK
  exact Nat.le_trans (List.length_filter_le _ _) (by rw [List.length_map, List.length_range]; exact Nat.le_refl _)
theorem segs_len (n : Nat) (rs : List (List Nat)) : ∀ i, (segs n rs i).length ≤ n * i
  | 0 => Nat.zero_le _
  | i + 1 => by
    rw [segs_succ, List.length_append, Nat.mul_succ]
    have := segs_len n rs i
    have := segK_len rs i (n - i)
    omega
def fiStrets : FI := ⟨[true, true], 0, fun ds post _ => ∃ n rs, ds = [nD n, ttD rs] ∧ n ≤ 6 ∧ rs ≠ [] ∧ rs.length ≤ 12 ∧ (∀ row ∈ rs, row.Perm (List.range n)) ∧ post (ttD (strets n rs))⟩
theorem v_strets {T : Tb} (h1 : T.fs[1]? = some fiStretch) (ds : List D) (post : D → Prop) (ex : XD → Prop) (h : fiStrets.sp ds post ex) : wB T cb_stretches (startE 6 ds) (E0 post ex) := by
  obtain ⟨n, rs, rfl, hn, hne, b1, b2, hp⟩ := h
  obtain ⟨r0, rs', rfl⟩ : ∃ r0 rs', rs = r0 :: rs' := by
    cases rs with
    | nil => exact absurd rfl hne
    | cons r rs => exact ⟨r, rs, rfl⟩
  have p0 := b2 r0 List.mem_cons_self
  have l0 : r0.length = n := by rw [p0.length_eq, List.length_range]
  have okseg : ∀ a k, okL (seg (r0 :: rs') a k) ∧ ∀ x ∈ seg (r0 :: rs') a k, x ∈ List.range n := fun a k => by
    have hm : ∀ x ∈ seg (r0 :: rs') a k, x ∈ List.range n := fun x hx => by
      have h1 := (List.mergeSort_perm _ leN).mem_iff.mp hx
      exact p0.mem_iff.mp (List.mem_of_mem_drop (List.mem_of_mem_take h1))
    refine ⟨⟨?_, fun x hx => by have := List.mem_range.mp (hm x hx); omega⟩, hm⟩
    unfold seg
    rw [List.length_mergeSort, List.length_take, List.length_drop]
    show min _ (r0.length - a) ≤ 12
    omega
  simp only [cb_stretches, wB, wS, wE, wL]
  refine ⟨Nat.zero_le _, nD n, rfl, ⟨by omega, by omega, ?_⟩⟩
  rw [Int.toNat_natCast]
  refine goF_inv (fun i env => i ≤ n ∧ ∃ x y z, env = [some (nD n), some (ttD (r0 :: rs')), some (.lst ((segs n (r0 :: rs') i).map tD)), x, y, z]) _ 0 _ _ ⟨Nat.zero_le _, none, none, none, rfl⟩ ?_ ?_
  · rintro i d env hd ⟨_, x, y, z, rfl⟩
    rw [Nat.zero_add]
    rw [List.getElem?_map] at hd
    obtain ⟨i', hi', rfl⟩ := Option.map_eq_some_iff.mp hd
    have hi : i < n := by have := (List.getElem?_eq_some_iff.mp hi').1; rw [List.length_range] at this; exact this
    have : i' = i := by rw [List.getElem?_range hi] at hi'; exact (Option.some.inj hi').symm
    subst this
    refine ⟨_, rfl, fun E' nx ct rt ex' bk => ?_⟩
    refine ⟨_, rfl, ?_⟩
    refine ⟨nD n, rfl, ?_⟩
    refine ⟨⟨by omega, by omega, by omega, by omega⟩, ?_⟩
    have eL : (((n : Nat) : Int) + 1 - ((i' : Int) + 1)).toNat = n - i' := by omega
    rw [eL]
    refine goF_inv (fun j env => ∃ y z, env = [some (nD n), some (ttD (r0 :: rs')), some (.lst ((segs n (r0 :: rs') i' ++ segK (r0 :: rs') i' j).map tD)), some (nD i'), y, z]) _ 0 _ _ ⟨y, z, by
      show _ = [some (nD n), some (ttD (r0 :: rs')), some (.lst ((segs n (r0 :: rs') i' ++ []).map tD)), some (nD i'), y, z]
      rw [List.append_nil]; rfl⟩ ?_ ?_
    · rintro j d env hd ⟨y, z, rfl⟩
      rw [Nat.zero_add]
      rw [List.getElem?_map] at hd
      obtain ⟨j', hj', rfl⟩ := Option.map_eq_some_iff.mp hd
      have hj : j < n - i' := by have := (List.getElem?_eq_some_iff.mp hj').1; rw [List.length_range] at this; exact this
      have : j' = j := by rw [List.getElem?_range hj] at hj'; exact (Option.some.inj hj').symm
      subst this
      refine ⟨_, rfl, fun E2 nx2 ct2 rt2 ex2 bk2 => ?_⟩
      refine ⟨ttD (r0 :: rs'), rfl, tD r0, atI_zero, nD i', rfl, (i' : Int), rfl, .int ((i' : Int) + 1 + (j' : Nat)), rfl, _, rfl, ?_⟩
      rw [if_neg (by decide)]
      have e1 : ((i' : Int) + 1 + (j' : Nat)) = ((i' + 1 + j' : Nat) : Int) := by omega
      rw [e1]
      simp only [wSl, tD]
      rw [cut_mid (by rw [List.length_map]; omega) (by rw [List.length_map]; omega)]
      have e2 : ((r0.map nD).drop i').take (i' + 1 + j' - i') = ((r0.drop i').take (j' + 1)).map nD := by
        rw [List.map_take, List.map_drop]; congr 1; omega
      rw [e2]
      have okp : okL ((r0.drop i').take (j' + 1)) := ⟨by rw [List.length_take, List.length_drop]; omega, fun x hx => by
        have := List.mem_range.mp (p0.mem_iff.mp (List.mem_of_mem_drop (List.mem_of_mem_take hx))); omega⟩
      refine ⟨_, rfl, fit_t okp, ?_, ?_, ?_⟩
      · rw [pys_map, List.map_map]
        exact PySem.W.AllAlike.of fun a b => by
          show PySem.W.alike (.int _) (.int _) = true
          simp [PySem.W.alike]
      · rw [pys_map, List.map_map]
        exact PySem.W.Sortable.others fun a => ⟨(fun z => nomatch z), (fun xs z => nomatch z)⟩
      rw [sort_n]
      refine ⟨ttD (r0 :: rs'), rfl, tD (seg (r0 :: rs') i' j'), rfl, fiStretch, h1, r0 :: rs', seg (r0 :: rs') i' j', rfl, b1, ?_, (okseg i' j').1, ?_, _, rfl, ?_⟩
      · intro row hr
        exact ⟨by rw [(b2 row hr).length_eq, List.length_range]; omega, fun x hx => by have := List.mem_range.mp ((b2 row hr).mem_iff.mp hx); omega⟩
      · intro hq row hr
        cases e : seg (r0 :: rs') i' j' with
        | nil => exact absurd e hq
        | cons x q => exact ⟨x, (b2 row hr).mem_iff.mpr ((okseg i' j').2 x (by rw [e]; exact List.mem_cons_self)), List.mem_cons_self⟩
      · have fin := fun y z => nx2 _ ⟨y, z, rfl⟩
        rw [segK_succ] at fin
        by_cases hk : keep (r0 :: rs') (seg (r0 :: rs') i' j') = true
        · have hk2 := hk
          unfold keep at hk2
          rw [if_pos hk2]
          rw [if_pos hk, ← List.append_assoc, List.map_append] at fin
          refine ⟨(segs n (r0 :: rs') i' ++ segK (r0 :: rs') i' j').map tD, rfl, ?_, tD (seg (r0 :: rs') i' j'), rfl, fin _ _⟩
          have g1 := segs_len n (r0 :: rs') i'
          have g2 := segK_len (r0 :: rs') i' j'
          have g3 : n * i' ≤ 6 * 6 := Nat.mul_le_mul hn (by omega)
          rw [List.length_map, List.length_append, sizeLine_eq]; omega
        · have hk2 := hk
          unfold keep at hk2
          rw [if_neg hk2]
          rw [if_neg hk, List.append_nil] at fin
          exact fin _ _
    · rintro env ⟨y, z, rfl⟩
      rw [Nat.zero_add, List.length_map, List.length_range, ← segs_succ]
      exact nx _ ⟨hi, _, _, _, rfl⟩
  · rintro env ⟨_, x, y, z, rfl⟩
    rw [Nat.zero_add, List.length_map, List.length_range]
    refine ⟨_, rfl, wSortK_t ⟨?_, ?_⟩ hp⟩
    · have := segs_len n (r0 :: rs') n
      have : n * n ≤ 6 * 6 := Nat.mul_le_mul hn hn
      omega
    · intro q hq
      unfold segs at hq
      obtain ⟨a, _, ha⟩ := List.mem_flatMap.mp hq
      obtain ⟨k, _, rfl⟩ := List.mem_map.mp (List.mem_filter.mp ha).1
      exact (okseg a k).1
end K84
set_option Elab.async false
set_option linter.all false
set_option maxRecDepth 100000
set_option maxHeartbeats 4000000
namespace K84
open PySem PySem.Spec PyProof.Rows L2 VI
/-! runs, in general -/
def ps (q : List Nat) : Nat → List Nat → List Nat
  | _, [] => []
  | i, x :: r => if x ∈ q then i :: ps q (i + 1) r else ps q (i + 1) r
theorem ps_cons (q : List Nat) (i x : Nat) (r : List Nat) : ps q i (x :: r) = if x ∈ q then i :: ps q (i + 1) r else ps q (i + 1) r := rfl
theorem ps_pl (q : List Nat) : ∀ (r : List Nat) (i : Nat), ((r.zipIdx i).filter fun p => decide (p.1 ∈ q)).map (·.2) = ps q i r
  | [], i => rfl
  | x :: r, i => by
    unfold ps
    rw [List.zipIdx_cons, List.filter_cons]
    by_cases h : x ∈ q
    · rw [if_pos (decide_eq_true h), if_pos h, List.map_cons, ps_pl q r (i + 1)]
    · rw [if_neg (by rw [decide_eq_true_eq]; exact h), if_neg h, ps_pl q r (i + 1)]
theorem ps_app (q : List Nat) : ∀ (u v : List Nat) (i : Nat), ps q i (u ++ v) = ps q i u ++ ps q (i + u.length) v
  | [], v, i => by simp [ps]
  | x :: u, v, i => by
    rw [List.cons_append, ps_cons, ps_cons, ps_app q u v (i + 1), List.length_cons, show i + 1 + u.length = i + (u.length + 1) by omega]
    split <;> rfl
theorem ps_none (q : List Nat) : ∀ (u : List Nat) (i : Nat), (∀ x ∈ u, x ∉ q) → ps q i u = []
  | [], i, _ => rfl
  | x :: u, i, h => by
    rw [ps_cons, if_neg (h x List.mem_cons_self)]
    exact ps_none q u (i + 1) fun y hy => h y (List.mem_cons_of_mem _ hy)
theorem ps_len (q : List Nat) : ∀ (r : List Nat) (i : Nat), (ps q i r).length = (r.filter fun x => decide (x ∈ q)).length
  | [], i => rfl
  | x :: r, i => by
    unfold ps
    rw [List.filter_cons]
    by_cases h : x ∈ q
    · rw [if_pos h, if_pos (decide_eq_true h), List.length_cons, List.length_cons, ps_len q r]
    · rw [if_neg h, if_neg (by rw [decide_eq_true_eq]; exact h), ps_len q r]
theorem split1 (q : List Nat) : ∀ r : List Nat, (∃ x ∈ r, x ∈ q) → ∃ u x t, r = u ++ x :: t ∧ x ∈ q ∧ ∀ y ∈ u, y ∉ q
  | [], ⟨_, h, _⟩ => nomatch h
  | x :: r, ⟨y, hy, hq⟩ => by
    by_cases h : x ∈ q
    · exact ⟨[], x, r, rfl, h, fun _ z => nomatch z⟩
    · have : ∃ x ∈ r, x ∈ q := ⟨y, (List.mem_cons.mp hy).resolve_left fun z => h (z ▸ hq), hq⟩
      obtain ⟨u, z, t, rfl, h1, h2⟩ := split1 q r this
      exact ⟨x :: u, z, t, rfl, h1, fun y hy => (List.mem_cons.mp hy).elim (fun e => e ▸ h) (h2 y)⟩
theorem split2 (q r : List Nat) (h : ∃ x ∈ r, x ∈ q) : ∃ u x t, r = u ++ x :: t ∧ x ∈ q ∧ ∀ y ∈ t, y ∉ q := by
  obtain ⟨x, h1, h2⟩ := h
  obtain ⟨u, z, t, e, h3, h4⟩ := split1 q r.reverse ⟨x, List.mem_reverse.mpr h1, h2⟩
  refine ⟨t.reverse, z, u.reverse, ?_, h3, fun y hy => h4 y (List.mem_reverse.mp hy)⟩
  rw [← List.reverse_reverse r, e]; simp
theorem filter_perm {r q : List Nat} (hr : r.Nodup) (hq : q.Nodup) (hs : ∀ x ∈ q, x ∈ r) : (r.filter fun x => decide (x ∈ q)).Perm q := by
  refine (List.perm_ext_iff_of_nodup (hr.filter _) hq).mpr fun a => ?_
  rw [List.mem_filter, decide_eq_true_eq]
  exact ⟨fun h => h.2, fun h => ⟨hs a h, h⟩⟩
theorem run_iff {r q : List Nat} (hr : r.Nodup) (hq : q.Nodup) (hs : ∀ x ∈ q, x ∈ r) (hne : q ≠ []) : isRun r q = true ↔ ∃ u v w, r = u ++ v ++ w ∧ v.Perm q := by
  have hx : ∃ x ∈ r, x ∈ q := by
    cases q with
    | nil => exact absurd rfl hne
    | cons x q => exact ⟨x, hs x List.mem_cons_self, List.mem_cons_self⟩
  obtain ⟨u, x, t, rfl, hxq, hu⟩ := split1 q r hx
  obtain ⟨s, z, w, e, hzq, hw⟩ := split2 q (x :: t) ⟨x, List.mem_cons_self, hxq⟩
  have hpl : pl (u ++ x :: t) q = ps q 0 (u ++ x :: t) := ps_pl q _ 0
  have hp := filter_perm hr hq hs
  have hps : ps q 0 (u ++ x :: t) = ps q u.length s ++ [u.length + s.length] := by
    rw [ps_app, ps_none q u 0 hu, List.nil_append, e, ps_app, ps_cons, if_pos hzq, ps_none q w _ hw, Nat.zero_add]
  have hhead : (ps q 0 (u ++ x :: t)).headD 0 = u.length := by
    rw [ps_app, ps_none q u 0 hu, List.nil_append, ps_cons, if_pos hxq, Nat.zero_add]; rfl
  have hlast : (ps q 0 (u ++ x :: t)).getLastD 0 = u.length + s.length := by rw [hps]; simp
  have hrun : isRun (u ++ x :: t) q = true ↔ s.length + 1 = q.length := by
    unfold isRun
    rw [hpl, hhead, hlast, decide_eq_true_eq]
    omega
  rw [hrun]
  have hf : ((u ++ x :: t).filter fun x => decide (x ∈ q)) = (s ++ [z]).filter fun x => decide (x ∈ q) := by
    have e2 : u ++ x :: t = u ++ ((s ++ [z]) ++ w) := by rw [e]; simp
    rw [e2, List.filter_append, List.filter_append (s ++ [z])]
    have f1 : (u.filter fun x => decide (x ∈ q)) = [] := List.filter_eq_nil_iff.mpr fun y hy => by rw [decide_eq_true_eq]; exact hu y hy
    have f2 : (w.filter fun x => decide (x ∈ q)) = [] := List.filter_eq_nil_iff.mpr fun y hy => by rw [decide_eq_true_eq]; exact hw y hy
    rw [f1, f2, List.nil_append, List.append_nil]
  constructor
  · intro hl
    refine ⟨u, s ++ [z], w, by rw [e]; simp, ?_⟩
    rw [hf] at hp
    have : (s ++ [z]).filter (fun x => decide (x ∈ q)) = s ++ [z] := by
      refine List.filter_sublist.eq_of_length ?_
      rw [hp.length_eq, List.length_append]; exact hl.symm
    rwa [this] at hp
  · rintro ⟨u', v, w', e', hv⟩
    have l1 : (ps q 0 (u ++ x :: t)).length = q.length := by rw [ps_len, hp.length_eq]
    have hall : ∀ y ∈ v, y ∈ q := fun y hy => hv.mem_iff.mp hy
    have nd : (u' ++ v ++ w').Nodup := e' ▸ hr
    have hu' : ∀ y ∈ u', y ∉ q := fun y hy hq' => by
      have h2 := List.nodup_append.mp (List.nodup_append.mp nd).1
      exact h2.2.2 y hy y (hv.mem_iff.mpr hq') rfl
    have hw' : ∀ y ∈ w', y ∉ q := fun y hy hq' => by
      have h2 := (List.nodup_append.mp nd).2.2
      exact h2 y (List.mem_append_right _ (hv.mem_iff.mpr hq')) y hy rfl
    have rng : ∀ (v : List Nat) (i : Nat), (∀ y ∈ v, y ∈ q) → ps q i v = List.range' i v.length := fun v => by
      induction v with
      | nil => intro i _; rfl
      | cons y v ih =>
        intro i h
        rw [ps_cons, if_pos (h y List.mem_cons_self), ih (i + 1) fun a ha => h a (List.mem_cons_of_mem _ ha)]
        rfl
    have e3 : ps q 0 (u ++ x :: t) = List.range' u'.length v.length := by
      rw [e', ps_app, ps_app, ps_none q u' 0 hu', ps_none q w' _ hw', rng v _ hall]
      simp
    have hv0 : v ≠ [] := fun z => hne (by rw [z] at hv; exact hv.symm.eq_nil)
    obtain ⟨k, hk⟩ : ∃ k, v.length = k + 1 := ⟨v.length - 1, by have := List.length_pos_iff.mpr hv0; omega⟩
    have a1 : u'.length = u.length := by rw [← hhead, e3, hk]; rfl
    have a2 : u'.length + k = u.length + s.length := by
      rw [← hlast, e3, hk, List.range'_concat]; simp
    rw [← hv.length_eq, hk]; omega
/-- ascending lists of things of a size -/
theorem mem_subs : ∀ (n : Nat) (q : List Nat), q ∈ subs (List.range n) ↔ q.Pairwise (· < ·) ∧ ∀ x ∈ q, x < n
  | 0, q => by
    show q ∈ [[]] ↔ _
    rw [List.mem_singleton]
    constructor
    · rintro rfl; exact ⟨.nil, fun _ h => nomatch h⟩
    · intro h
      cases q with
      | nil => rfl
      | cons x q => exact absurd (h.2 x List.mem_cons_self) (Nat.not_lt_zero _)
  | n + 1, q => by
    rw [List.range_succ, subs_snoc, List.mem_append, mem_subs n q, List.mem_map]
    constructor
    · rintro (⟨h1, h2⟩ | ⟨p, hp, rfl⟩)
      · exact ⟨h1, fun x hx => Nat.lt_succ_of_lt (h2 x hx)⟩
      · obtain ⟨h1, h2⟩ := (mem_subs n p).mp hp
        refine ⟨List.pairwise_append.mpr ⟨h1, List.pairwise_singleton _ _, fun a ha b hb => ?_⟩, fun x hx => ?_⟩
        · rw [List.mem_singleton.mp hb]; exact h2 a ha
        · rcases List.mem_append.mp hx with z | z
          · exact Nat.lt_succ_of_lt (h2 x z)
          · rw [List.mem_singleton.mp z]; exact Nat.lt_succ_self n
    · rintro ⟨h1, h2⟩
      by_cases hn : n ∈ q
      · right
        have hne : q ≠ [] := fun z => by rw [z] at hn; cases hn
        have hq := List.dropLast_concat_getLast hne
        rw [← hq] at h1 h2 hn
        have h3 := List.pairwise_append.mp h1
        have hl : q.getLast hne = n := by
          rcases List.mem_append.mp hn with z | z
          · have a1 := h3.2.2 n z _ List.mem_cons_self
            have a2 := h2 (q.getLast hne) (List.mem_append_right _ List.mem_cons_self)
            omega
          · exact (List.mem_singleton.mp z).symm
        refine ⟨q.dropLast, (mem_subs n _).mpr ⟨h3.1, fun x hx => ?_⟩, by rw [← hl]; exact hq⟩
        have := h3.2.2 x hx _ List.mem_cons_self
        omega
      · left
        refine ⟨h1, fun x hx => ?_⟩
        have := h2 x hx
        have : x ≠ n := fun z => hn (z ▸ hx)
        omega
theorem subs_nodup : ∀ n : Nat, (subs (List.range n)).Nodup
  | 0 => by show List.Nodup [[]]; simp
  | n + 1 => by
    rw [List.range_succ, subs_snoc]
    refine List.nodup_append.mpr ⟨subs_nodup n, ?_, fun a ha b hb e => ?_⟩
    · refine List.pairwise_map.mpr ((subs_nodup n).imp fun h e => h (List.append_cancel_right e))
    · subst e
      obtain ⟨p, _, rfl⟩ := List.mem_map.mp hb
      exact absurd ((mem_subs n _).mp ha |>.2 n (List.mem_append_right _ List.mem_cons_self)) (Nat.lt_irrefl n)
theorem asc_nodup {q : List Nat} (h : q.Pairwise (· < ·)) : q.Nodup := h.imp fun h => Nat.ne_of_lt h
theorem asc_eq {a b : List Nat} (ha : a.Pairwise (· < ·)) (hb : b.Pairwise (· < ·)) (h : ∀ x, x ∈ a ↔ x ∈ b) : a = b := by
  refine List.Perm.eq_of_pairwise (le := fun a b => a < b) (fun a b _ _ h1 h2 => absurd h2 (Nat.lt_asymm h1)) ha hb ?_
  exact (List.perm_ext_iff_of_nodup (asc_nodup ha) (asc_nodup hb)).mpr h
theorem leN_iff {a b : Nat} : leN a b = true ↔ a ≤ b := by unfold leN; rw [decide_eq_true_eq]; omega
theorem sort_asc {l : List Nat} (h : l.Nodup) : (l.mergeSort leN).Pairwise (· < ·) := by
  have h1 : (l.mergeSort leN).Pairwise (fun a b => leN a b = true) := List.pairwise_mergeSort (fun a b c h1 h2 => by rw [leN_iff] at *; omega) (fun a b => by rw [Bool.or_eq_true, leN_iff, leN_iff]; omega) l
  have h2 : (l.mergeSort leN).Nodup := (List.mergeSort_perm l leN).nodup_iff.mpr h
  exact (List.pairwise_and_iff.mpr ⟨h1, h2⟩).imp fun ⟨a, b⟩ => by rw [leN_iff] at a; omega
theorem mem_sort {l : List Nat} {x : Nat} : x ∈ l.mergeSort leN ↔ x ∈ l := (List.mergeSort_perm l leN).mem_iff
theorem mem_due {n : Nat} {rs : List (List Nat)} {q : List Nat} : q ∈ dueL n rs ↔ (q.Pairwise (· < ·) ∧ ∀ x ∈ q, x < n) ∧ q ≠ [] ∧ rs.all (fun row => isRun row q) = true := by
  unfold dueL
  rw [List.mem_mergeSort, List.mem_filter, List.mem_filter, mem_subs, decide_eq_true_eq]
  exact ⟨fun h => ⟨h.1.1, h.1.2, h.2⟩, fun h => ⟨⟨h.1, h.2.1⟩, h.2.2⟩⟩
theorem due_nodup (n : Nat) (rs : List (List Nat)) : (dueL n rs).Nodup := by
  unfold dueL
  rw [(List.mergeSort_perm _ _).nodup_iff]
  exact ((subs_nodup n).filter _).filter _
theorem rk_cong {l m : List (List Nat)} (h : l.Perm m) : l.mergeSort rk = m.mergeSort rk := sort_perm rk_trans rk_total (fun _ _ => rk_anti) h
/-- a row's things -/
structure Row (n : Nat) (r : List Nat) : Prop where
  p : r.Perm (List.range n)
theorem perm_nodup {n : Nat} {r : List Nat} (h : r.Perm (List.range n)) : r.Nodup := h.nodup_iff.mpr List.nodup_range
theorem perm_mem {n : Nat} {r : List Nat} (h : r.Perm (List.range n)) (x : Nat) : x ∈ r ↔ x < n := h.mem_iff.trans List.mem_range
theorem run_of {n : Nat} {r q : List Nat} (h : r.Perm (List.range n)) (hq : q.Pairwise (· < ·)) (hl : ∀ x ∈ q, x < n) (hne : q ≠ []) : isRun r q = true ↔ ∃ u v w, r = u ++ v ++ w ∧ v.Perm q :=
  run_iff (perm_nodup h) (asc_nodup hq) (fun x hx => (perm_mem h x).mpr (hl x hx)) hne
theorem segs_nodup {n : Nat} {rs : List (List Nat)} (h : (rs.headD []).Perm (List.range n)) : (segs n rs n).Nodup := by
  have nd := perm_nodup h
  have ln : (rs.headD []).length = n := by rw [h.length_eq, List.length_range]
  generalize hr : rs.headD [] = r at *
  -- a segment's first place and length are told by its things
  have inj : ∀ a k a' k', a + k < n → a' + k' < n → ((r.drop a).take (k + 1)).Perm ((r.drop a').take (k' + 1)) → a = a' ∧ k = k' := by
    have le : ∀ a k a' k', a + k < n → a' + k' < n → ((r.drop a).take (k + 1)).Perm ((r.drop a').take (k' + 1)) → a' ≤ a := by
      intro a k a' k' h1 h2 hp
      have m1 : r[a]'(by omega) ∈ (r.drop a).take (k + 1) := by
        rw [List.drop_eq_getElem_cons (by omega), List.take_succ_cons]; exact List.mem_cons_self
      have m2 := hp.mem_iff.mp m1
      obtain ⟨j, hj, ej⟩ := List.getElem_of_mem m2
      rw [List.getElem_take, List.getElem_drop] at ej
      have := (List.getElem_inj nd).mp ej
      omega
    intro a k a' k' h1 h2 hp
    have l := hp.length_eq
    rw [List.length_take, List.length_take, List.length_drop, List.length_drop] at l
    have l1 := le a k a' k' h1 h2 hp
    have l2 := le a' k' a k h2 h1 hp.symm
    omega
  have injS : ∀ a k a' k', a + k < n → a' + k' < n → seg rs a k = seg rs a' k' → a = a' ∧ k = k' := by
    intro a k a' k' h1 h2 e
    unfold seg at e
    rw [hr] at e
    refine inj a k a' k' h1 h2 ?_
    exact (List.mergeSort_perm _ leN).symm.trans ((List.Perm.of_eq e).trans (List.mergeSort_perm _ leN))
  unfold segs
  refine List.pairwise_flatMap.mpr ⟨fun a ha => ?_, ?_⟩
  · have ha := List.mem_range.mp ha
    unfold segK
    refine List.Pairwise.filter _ (List.pairwise_map.mpr ?_)
    refine List.Pairwise.imp_of_mem (R := fun x y : Nat => x ≠ y) (fun {x y} hx hy hn e => hn ?_) (show (List.range (n - a)).Pairwise (fun x y => x ≠ y) from List.nodup_range)
    have hx := List.mem_range.mp hx
    have hy := List.mem_range.mp hy
    exact (injS a x a y (by omega) (by omega) e).2
  · refine List.Pairwise.imp_of_mem (R := fun x y : Nat => x ≠ y) (fun {x y} hx hy hn p hp p' hp' e => hn ?_) (show (List.range n).Pairwise (fun x y => x ≠ y) from List.nodup_range)
    obtain ⟨k, hk, rfl⟩ := List.mem_map.mp (List.mem_filter.mp hp).1
    obtain ⟨k', hk', rfl⟩ := List.mem_map.mp (List.mem_filter.mp hp').1
    have hk := List.mem_range.mp hk
    have hk' := List.mem_range.mp hk'
    exact (injS x k y k' (by omega) (by omega) e).1
theorem strets_dueG {n : Nat} {rs : List (List Nat)} (hne : rs ≠ []) (hp : ∀ r ∈ rs, r.Perm (List.range n)) : strets n rs = dueL n rs := by
  obtain ⟨r0, rs', rfl⟩ : ∃ r0 rs', rs = r0 :: rs' := by
    cases rs with
    | nil => exact absurd rfl hne
    | cons r rs => exact ⟨r, rs, rfl⟩
  have p0 := hp r0 List.mem_cons_self
  have ln : r0.length = n := by rw [p0.length_eq, List.length_range]
  unfold strets dueL
  refine rk_cong ?_
  refine (List.perm_ext_iff_of_nodup (segs_nodup (rs := r0 :: rs') p0) (((subs_nodup n).filter _).filter _)).mpr fun q => ?_
  rw [List.mem_filter, List.mem_filter, mem_subs, decide_eq_true_eq]
  unfold segs
  rw [List.mem_flatMap]
  constructor
  · rintro ⟨a, ha, hq⟩
    obtain ⟨h1, h2⟩ := List.mem_filter.mp hq
    obtain ⟨k, hk, rfl⟩ := List.mem_map.mp h1
    unfold keep at h2
    rw [Bool.and_eq_true, decide_eq_true_eq] at h2
    refine ⟨⟨⟨?_, fun x hx => ?_⟩, h2.1⟩, h2.2⟩
    · exact sort_asc (((perm_nodup p0).sublist (List.drop_sublist _ _)).sublist (List.take_sublist _ _))
    · exact (perm_mem p0 x).mp (List.mem_of_mem_drop (List.mem_of_mem_take (mem_sort.mp hx)))
  · rintro ⟨⟨⟨h1, h2⟩, h3⟩, h4⟩
    have hr0 := List.all_eq_true.mp h4 r0 List.mem_cons_self
    obtain ⟨u, v, w, e, hv⟩ := (run_of p0 h1 h2 h3).mp hr0
    have hv0 : v.length ≠ 0 := fun z => h3 (by rw [List.length_eq_zero_iff.mp z] at hv; exact hv.symm.eq_nil)
    have hl : u.length + v.length + w.length = n := by rw [← ln, e]; simp [Nat.add_assoc]
    have es : seg (r0 :: rs') u.length (v.length - 1) = q := by
      unfold seg
      show ((r0.drop u.length).take _).mergeSort leN = q
      rw [e, List.append_assoc, List.drop_left, show v.length - 1 + 1 = v.length by omega, List.take_left]
      exact asc_eq (sort_asc (hv.nodup_iff.mpr (asc_nodup h1))) h1 fun x => mem_sort.trans hv.mem_iff
    refine ⟨u.length, List.mem_range.mpr (by omega), List.mem_filter.mpr ⟨List.mem_map.mpr ⟨v.length - 1, List.mem_range.mpr (by omega), es⟩, ?_⟩⟩
    unfold keep
    rw [h4, decide_eq_true h3]; rfl
theorem rev_runG {n : Nat} {r q : List Nat} (hr : r.Perm (List.range n)) (hq : q.Pairwise (· < ·)) (hl : ∀ x ∈ q, x < n) (hne : q ≠ []) : isRun r.reverse q = isRun r q := by
  have key : ∀ r : List Nat, r.Perm (List.range n) → isRun r q = true → isRun r.reverse q = true := fun r hr h => by
    obtain ⟨u, v, w, e, hv⟩ := (run_of hr hq hl hne).mp h
    refine (run_of ((List.reverse_perm r).trans hr) hq hl hne).mpr ⟨w.reverse, v.reverse, u.reverse, by rw [e]; simp, (List.reverse_perm v).trans hv⟩
  rw [Bool.eq_iff_iff]
  exact ⟨fun h => by have := key _ ((List.reverse_perm r).trans hr) h; rwa [List.reverse_reverse] at this, key r hr⟩
end K84
set_option Elab.async false
set_option linter.all false
set_option maxRecDepth 100000
set_option maxHeartbeats 4000000
namespace K84
open PySem PySem.Spec PyProof.Rows L2 VI
/-! other names -/
structure Nm (n : Nat) (f : Nat → Nat) : Prop where
  lt : ∀ x, x < n → f x < n
  inj : ∀ x y, x < n → y < n → f x = f y → x = y
  sur : ∀ y, y < n → ∃ x, x < n ∧ f x = y
theorem nm_map {n : Nat} {nm : List Nat} (h : nm.Perm (List.range n)) : (List.range n).map (fun x => nm.getD x 0) = nm := by
  have ln : nm.length = n := by rw [h.length_eq, List.length_range]
  refine List.ext_getElem (by rw [List.length_map, List.length_range, ln]) fun i h1 h2 => ?_
  rw [List.getElem_map, List.getElem_range, List.getD_eq_getElem?_getD, List.getElem?_eq_getElem h2]; rfl
theorem nm_of {n : Nat} {nm : List Nat} (h : nm.Perm (List.range n)) : Nm n (fun x => nm.getD x 0) := by
  have ln : nm.length = n := by rw [h.length_eq, List.length_range]
  have nd := perm_nodup h
  have at_ : ∀ x (hx : x < n), nm.getD x 0 = nm[x]'(by omega) := fun x hx => by rw [List.getD_eq_getElem?_getD, List.getElem?_eq_getElem (by omega)]; rfl
  refine ⟨fun x hx => ?_, fun x y hx hy e => ?_, fun y hy => ?_⟩
  · show nm.getD x 0 < n
    rw [at_ x hx]; exact (perm_mem h _).mp (List.getElem_mem _)
  · have e : nm.getD x 0 = nm.getD y 0 := e
    rw [at_ x hx, at_ y hy] at e
    exact (List.getElem_inj nd).mp e
  · obtain ⟨j, hj, e⟩ := List.getElem_of_mem ((perm_mem h y).mpr hy)
    exact ⟨j, by omega, by show nm.getD j 0 = y; rw [at_ j (by omega)]; exact e⟩
section
variable {n : Nat} {f : Nat → Nat}
theorem Nm.nd (F : Nm n f) {l : List Nat} (h : l.Nodup) (hl : ∀ x ∈ l, x < n) : (l.map f).Nodup :=
  List.pairwise_map.mpr (List.Pairwise.imp_of_mem (R := fun x y : Nat => x ≠ y) (fun {x y} hx hy hn e => hn (F.inj x y (hl x hx) (hl y hy) e)) h)
theorem Nm.row (F : Nm n f) {r : List Nat} (h : r.Perm (List.range n)) : (r.map f).Perm (List.range n) := by
  refine (List.perm_ext_iff_of_nodup (F.nd (perm_nodup h) fun x hx => (perm_mem h x).mp hx) List.nodup_range).mpr fun y => ?_
  rw [List.mem_map, List.mem_range]
  constructor
  · rintro ⟨x, hx, rfl⟩; exact F.lt x ((perm_mem h x).mp hx)
  · intro hy
    obtain ⟨x, hx, e⟩ := F.sur y hy
    exact ⟨x, (perm_mem h x).mpr hx, e⟩
theorem Nm.mem (F : Nm n f) {l : List Nat} (hl : ∀ x ∈ l, x < n) {x : Nat} (hx : x < n) : f x ∈ l.map f ↔ x ∈ l := by
  rw [List.mem_map]
  exact ⟨fun ⟨y, hy, e⟩ => F.inj y x (hl y hy) hx e ▸ hy, fun h => ⟨x, h, rfl⟩⟩
theorem Nm.q (F : Nm n f) {q : List Nat} (hq : q.Pairwise (· < ·)) (hl : ∀ x ∈ q, x < n) : ((q.map f).mergeSort leN).Pairwise (· < ·) ∧ ∀ x ∈ (q.map f).mergeSort leN, x < n :=
  ⟨sort_asc (F.nd (asc_nodup hq) hl), fun x hx => by
    obtain ⟨y, hy, rfl⟩ := List.mem_map.mp (mem_sort.mp hx)
    exact F.lt y (hl y hy)⟩
theorem sort_ne {l : List Nat} (h : l ≠ []) : l.mergeSort leN ≠ [] := fun z => h (by
  have := (List.mergeSort_perm l leN)
  rw [z] at this; exact this.symm.eq_nil)
theorem Nm.run (F : Nm n f) {r q : List Nat} (h : r.Perm (List.range n)) (hq : q.Pairwise (· < ·)) (hl : ∀ x ∈ q, x < n) (hne : q ≠ []) : isRun (r.map f) ((q.map f).mergeSort leN) = isRun r q := by
  have hne' : q.map f ≠ [] := fun z => hne (List.map_eq_nil_iff.mp z)
  rw [Bool.eq_iff_iff, run_of h hq hl hne, run_of (F.row h) (F.q hq hl).1 (F.q hq hl).2 (sort_ne hne')]
  constructor
  · rintro ⟨u, v, w, e, hv⟩
    obtain ⟨a, w', e1, e2, rfl⟩ := List.map_eq_append_iff.mp e
    obtain ⟨u', v', rfl, rfl, rfl⟩ := List.map_eq_append_iff.mp e2
    refine ⟨u', v', w', e1, ?_⟩
    have hv2 := hv.trans (List.mergeSort_perm _ leN)
    have nd : (u' ++ v' ++ w').Nodup := e1 ▸ perm_nodup h
    have hvl : ∀ x ∈ v', x < n := fun x hx => (perm_mem h x).mp (by rw [e1]; exact List.mem_append_left _ (List.mem_append_right _ hx))
    refine (List.perm_ext_iff_of_nodup (List.nodup_append.mp (List.nodup_append.mp nd).1).2.1 (asc_nodup hq)).mpr fun x => ?_
    constructor
    · intro hx
      exact (F.mem hl (hvl x hx)).mp (hv2.mem_iff.mp ((F.mem hvl (hvl x hx)).mpr hx))
    · intro hx
      exact (F.mem hvl (hl x hx)).mp (hv2.mem_iff.mpr ((F.mem hl (hl x hx)).mpr hx))
  · rintro ⟨u, v, w, rfl, hv⟩
    exact ⟨u.map f, v.map f, w.map f, by simp, (hv.map f).trans (List.mergeSort_perm _ leN).symm⟩
theorem due_sort (n : Nat) (rs : List (List Nat)) : (dueL n rs).mergeSort rk = dueL n rs := by
  unfold dueL
  exact rk_cong (List.mergeSort_perm _ _)
theorem Nm.due (F : Nm n f) {rs : List (List Nat)} (h : ∀ r ∈ rs, r.Perm (List.range n)) : dueL n (rs.map fun r => r.map f) = ((dueL n rs).map fun q => (q.map f).mergeSort leN).mergeSort rk := by
  rw [← due_sort n (rs.map fun r => r.map f)]
  refine rk_cong ?_
  refine (List.perm_ext_iff_of_nodup (due_nodup _ _) ?_).mpr fun q => ?_
  · refine List.pairwise_map.mpr (List.Pairwise.imp_of_mem (R := fun x y => x ≠ y) (fun {p q} hp hq hn e => hn ?_) (due_nodup n rs))
    obtain ⟨⟨p1, p2⟩, _⟩ := mem_due.mp hp
    obtain ⟨⟨q1, q2⟩, _⟩ := mem_due.mp hq
    have pe : (p.map f).Perm (q.map f) := (List.mergeSort_perm _ leN).symm.trans ((List.Perm.of_eq e).trans (List.mergeSort_perm _ leN))
    refine asc_eq p1 q1 fun x => ?_
    constructor
    · intro hx; exact (F.mem q2 (p2 x hx)).mp (pe.mem_iff.mp ((F.mem p2 (p2 x hx)).mpr hx))
    · intro hx; exact (F.mem p2 (q2 x hx)).mp (pe.mem_iff.mpr ((F.mem q2 (q2 x hx)).mpr hx))
  · rw [List.mem_map]
    constructor
    · intro hq
      obtain ⟨⟨q1, q2⟩, q3, q4⟩ := mem_due.mp hq
      let p := (List.range n).filter fun x => decide (f x ∈ q)
      have hp1 : p.Pairwise (· < ·) := List.Pairwise.filter _ List.pairwise_lt_range
      have hp2 : ∀ x ∈ p, x < n := fun x hx => List.mem_range.mp (List.mem_filter.mp hx).1
      have hpm : ∀ x, x < n → (x ∈ p ↔ f x ∈ q) := fun x hx => by
        show x ∈ List.filter _ _ ↔ _
        rw [List.mem_filter, decide_eq_true_eq, List.mem_range]
        exact ⟨fun h => h.2, fun h => ⟨hx, h⟩⟩
      have he : (p.map f).mergeSort leN = q := by
        refine asc_eq (F.q hp1 hp2).1 q1 fun y => ?_
        rw [mem_sort, List.mem_map]
        constructor
        · rintro ⟨x, hx, rfl⟩; exact (hpm x (hp2 x hx)).mp hx
        · intro hy
          obtain ⟨x, hx, rfl⟩ := F.sur y (q2 y hy)
          exact ⟨x, (hpm x hx).mpr hy, rfl⟩
      have hp3 : p ≠ [] := fun z => q3 (by rw [← he, z, List.map_nil, List.mergeSort_nil])
      refine ⟨p, mem_due.mpr ⟨⟨hp1, hp2⟩, hp3, List.all_eq_true.mpr fun r hr => ?_⟩, he⟩
      have := List.all_eq_true.mp q4 (r.map f) (List.mem_map.mpr ⟨r, hr, rfl⟩)
      rw [← he] at this
      rwa [F.run (h r hr) hp1 hp2 hp3] at this
    · rintro ⟨p, hp, rfl⟩
      obtain ⟨⟨p1, p2⟩, p3, p4⟩ := mem_due.mp hp
      refine mem_due.mpr ⟨F.q p1 p2, sort_ne fun z => p3 (List.map_eq_nil_iff.mp z), List.all_eq_true.mpr fun r' hr' => ?_⟩
      obtain ⟨r, hr, rfl⟩ := List.mem_map.mp hr'
      rw [F.run (h r hr) p1 p2 p3]
      exact List.all_eq_true.mp p4 r hr
end
/-! a thing less -/
def dn (t x : Nat) : Nat := if t < x then x - 1 else x
theorem wo_eq (l : List Nat) (t : Nat) : without l t = (l.filter fun x => decide (x ≠ t)).map (dn t) := rfl
theorem dn_inj {t x y : Nat} (hx : x ≠ t) (hy : y ≠ t) (h : dn t x = dn t y) : x = y := by
  unfold dn at h
  split at h <;> split at h <;> omega
theorem dn_lt {t x y : Nat} (hx : x ≠ t) (hy : y ≠ t) (h : x < y) : dn t x < dn t y := by
  unfold dn
  split <;> split <;> omega
theorem mem_wo {l : List Nat} {t y : Nat} : y ∈ without l t ↔ ∃ x ∈ l, x ≠ t ∧ dn t x = y := by
  rw [wo_eq, List.mem_map]
  constructor
  · rintro ⟨x, hx, e⟩
    obtain ⟨h1, h2⟩ := List.mem_filter.mp hx
    exact ⟨x, h1, of_decide_eq_true h2, e⟩
  · rintro ⟨x, h1, h2, e⟩
    exact ⟨x, List.mem_filter.mpr ⟨h1, decide_eq_true h2⟩, e⟩
theorem ne_of_filter {l : List Nat} {t x : Nat} (h : x ∈ l.filter fun x => decide (x ≠ t)) : x ≠ t := of_decide_eq_true (List.mem_filter.mp h).2
theorem wo_nd {l : List Nat} {t : Nat} (h : l.Nodup) : (without l t).Nodup := by
  rw [wo_eq]
  exact List.pairwise_map.mpr (List.Pairwise.imp_of_mem (R := fun x y : Nat => x ≠ y) (fun {x y} hx hy hn e => hn (dn_inj (ne_of_filter hx) (ne_of_filter hy) e)) (h.filter _))
theorem wo_asc {l : List Nat} {t : Nat} (h : l.Pairwise (· < ·)) : (without l t).Pairwise (· < ·) := by
  rw [wo_eq]
  exact List.pairwise_map.mpr (List.Pairwise.imp_of_mem (R := fun x y : Nat => x < y) (fun {x y} hx hy hn => dn_lt (ne_of_filter hx) (ne_of_filter hy) hn) (h.filter _))
theorem wo_lt {l : List Nat} {t n : Nat} (ht : t < n) (h : ∀ x ∈ l, x < n) : ∀ x ∈ without l t, x < n - 1 := fun x hx => by
  obtain ⟨y, h1, h2, rfl⟩ := mem_wo.mp hx
  have := h y h1
  unfold dn
  split <;> omega
theorem wo_row {r : List Nat} {t n : Nat} (ht : t < n) (h : r.Perm (List.range n)) : (without r t).Perm (List.range (n - 1)) := by
  refine (List.perm_ext_iff_of_nodup (wo_nd (perm_nodup h)) List.nodup_range).mpr fun y => ?_
  rw [List.mem_range]
  refine ⟨wo_lt ht (fun x hx => (perm_mem h x).mp hx) y, fun hy => mem_wo.mpr ?_⟩
  by_cases hyt : y < t
  · exact ⟨y, (perm_mem h y).mpr (by omega), by omega, by unfold dn; rw [if_neg (by omega)]⟩
  · exact ⟨y + 1, (perm_mem h (y + 1)).mpr (by omega), by omega, by unfold dn; rw [if_pos (by omega)]; omega⟩
theorem wo_due {n t : Nat} {rs : List (List Nat)} (h : ∀ r ∈ rs, r.Perm (List.range n)) (ht : t < n) {q : List Nat} (hq : q ∈ dueL n rs) (hne : without q t ≠ []) : without q t ∈ dueL (n - 1) (rs.map fun r => without r t) := by
  obtain ⟨⟨q1, q2⟩, q3, q4⟩ := mem_due.mp hq
  refine mem_due.mpr ⟨⟨wo_asc q1, wo_lt ht q2⟩, hne, List.all_eq_true.mpr fun r' hr' => ?_⟩
  obtain ⟨r, hr, rfl⟩ := List.mem_map.mp hr'
  refine (run_of (wo_row ht (h r hr)) (wo_asc q1) (wo_lt ht q2) hne).mpr ?_
  obtain ⟨u, v, w, rfl, hv⟩ := (run_of (h r hr) q1 q2 q3).mp (List.all_eq_true.mp q4 r hr)
  refine ⟨without u t, without v t, without w t, ?_, ?_⟩
  · rw [wo_eq, wo_eq, wo_eq, wo_eq, List.filter_append, List.filter_append, List.map_append, List.map_append]
  · rw [wo_eq, wo_eq]
    exact (hv.filter _).map _
/-! rows turned about, in another order, twice -/
theorem due_bentG {n : Nat} {rs bs : List (List Nat)} (hp : ∀ r ∈ rs, r.Perm (List.range n)) (h1 : ∀ b ∈ bs, b ∈ rs ∨ ∃ r ∈ rs, b = r.reverse) (h2 : ∀ r ∈ rs, r ∈ bs ∨ r.reverse ∈ bs) : dueL n bs = dueL n rs := by
  unfold dueL
  congr 1
  refine List.filter_congr fun q hq => ?_
  obtain ⟨hq1, hq2⟩ := List.mem_filter.mp hq
  obtain ⟨q1, q2⟩ := (mem_subs n q).mp hq1
  have hne := of_decide_eq_true hq2
  rw [Bool.eq_iff_iff, List.all_eq_true, List.all_eq_true]
  constructor
  · intro g r hr
    rcases h2 r hr with z | z
    · exact g r z
    · have := g _ z
      rwa [rev_runG (hp r hr) q1 q2 hne] at this
  · intro g b hb
    rcases h1 b hb with z | ⟨r, hr, rfl⟩
    · exact g b z
    · rw [rev_runG (hp r hr) q1 q2 hne]; exact g r hr
end K84
set_option Elab.async false
set_option linter.all false
set_option maxRecDepth 100000
set_option maxHeartbeats 4000000
namespace K84
open PySem PySem.Spec PyProof.Rows L2 VI
theorem all_mem {rs rs' : List (List Nat)} (h : ∀ r, r ∈ rs ↔ r ∈ rs') (f : List Nat → Bool) : rs.all f = rs'.all f := by
  rw [Bool.eq_iff_iff, List.all_eq_true, List.all_eq_true]
  exact ⟨fun g r hr => g r ((h r).mpr hr), fun g r hr => g r ((h r).mp hr)⟩
theorem due_mem {n : Nat} {rs rs' : List (List Nat)} (h : ∀ r, r ∈ rs ↔ r ∈ rs') : dueL n rs = dueL n rs' := by
  unfold dueL
  congr 1
  exact List.filter_congr fun q _ => all_mem h _
theorem due_all {n : Nat} {rs rs' : List (List Nat)} (h : ∀ q ∈ subs (List.range n), q ≠ [] → (rs.all fun row => isRun row q) = rs'.all fun row => isRun row q) : dueL n rs = dueL n rs' := by
  unfold dueL
  congr 1
  exact List.filter_congr fun q hq => h q (List.mem_filter.mp hq).1 (of_decide_eq_true (List.mem_filter.mp hq).2)
/-- more rows: fewer lots -/
theorem due_more (n : Nat) (rs more : List (List Nat)) : dueL n (rs ++ more) = (dueL n rs).filter fun q => more.all fun row => isRun row q := by
  unfold dueL
  have tr : ∀ l : List (List Nat), ((l.mergeSort rk).filter fun q => more.all fun row => isRun row q) = (l.filter fun q => more.all fun row => isRun row q).mergeSort rk := fun l => by
    refine List.Perm.eq_of_pairwise (le := fun a b => rk a b = true) (fun a b _ _ h1 h2 => rk_anti h1 h2) ((List.pairwise_mergeSort rk_trans rk_total l).filter _) (List.pairwise_mergeSort rk_trans rk_total _) ?_
    exact ((List.mergeSort_perm l rk).filter _).trans (List.mergeSort_perm _ rk).symm
  rw [tr, List.filter_filter (l := List.filter _ _)]
  congr 1
  exact List.filter_congr fun q _ => by rw [List.all_append, Bool.and_comm]
theorem tD_inj {a b : List Nat} (h : tD a = tD b) : a = b := of_decide_eq_true (by rw [← eqD_t, h, eqD_t]; exact decide_eq_true rfl)
theorem bent_of : ∀ (rs : List (List Nat)) {ys : List D}, Paired (fun d y => y = d ∨ ∃ r : List Nat, d = tD r ∧ y = tD r.reverse) (rs.map tD) ys →
    ∃ bs : List (List Nat), ys = bs.map tD ∧ bs.length = rs.length ∧ (∀ b ∈ bs, b ∈ rs ∨ ∃ r ∈ rs, b = r.reverse) ∧ ∀ r ∈ rs, r ∈ bs ∨ r.reverse ∈ bs
  | [], _, .nil => ⟨[], rfl, rfl, fun _ h => (nomatch h), fun _ h => (nomatch h)⟩
  | r :: rs, _, .cons h t => by
    obtain ⟨bs, rfl, hl, h1, h2⟩ := bent_of rs t
    rcases h with rfl | ⟨r', e, rfl⟩
    · refine ⟨r :: bs, rfl, by simp [hl], fun b hb => ?_, fun b hb => ?_⟩
      · rcases List.mem_cons.mp hb with rfl | hb
        · exact .inl List.mem_cons_self
        · rcases h1 b hb with z | ⟨x, hx, rfl⟩
          · exact .inl (List.mem_cons_of_mem _ z)
          · exact .inr ⟨x, List.mem_cons_of_mem _ hx, rfl⟩
      · rcases List.mem_cons.mp hb with rfl | hb
        · exact .inl List.mem_cons_self
        · rcases h2 b hb with z | z
          · exact .inl (List.mem_cons_of_mem _ z)
          · exact .inr (List.mem_cons_of_mem _ z)
    · have := tD_inj e
      subst this
      refine ⟨r.reverse :: bs, rfl, by simp [hl], fun b hb => ?_, fun b hb => ?_⟩
      · rcases List.mem_cons.mp hb with rfl | hb
        · exact .inr ⟨r, List.mem_cons_self, rfl⟩
        · rcases h1 b hb with z | ⟨x, hx, rfl⟩
          · exact .inl (List.mem_cons_of_mem _ z)
          · exact .inr ⟨x, List.mem_cons_of_mem _ hx, rfl⟩
      · rcases List.mem_cons.mp hb with rfl | hb
        · exact .inr List.mem_cons_self
        · rcases h2 b hb with z | z
          · exact .inl (List.mem_cons_of_mem _ z)
          · exact .inr (List.mem_cons_of_mem _ z)
end K84
set_option Elab.async false
set_option linter.all false
set_option maxRecDepth 100000
set_option maxHeartbeats 4000000
namespace K84
open PySem PySem.Spec PyProof.Rows L2 VI
theorem fit_ttt {l : List (List (List Nat))} (hl : l.length ≤ 4) (h : ∀ x ∈ l, okR x) : Fit (.lst (l.map ttD)) := by
  refine ⟨[4, 200, 12], ⟨by rw [List.length_map]; exact hl, fun d hd => ?_⟩, by decide, by decide⟩
  obtain ⟨x, hx, rfl⟩ := List.mem_map.mp hd
  exact bd_tt (h x hx)
theorem ok_due {n : Nat} (hn : n ≤ 6) (rs : List (List Nat)) : okR (dueL n rs) := by
  refine ⟨?_, fun q hq => ?_⟩
  · unfold dueL
    rw [List.length_mergeSort]
    refine Nat.le_trans (List.length_filter_le _ _) (Nat.le_trans (List.length_filter_le _ _) ?_)
    rw [subs_len n _ List.length_range]
    exact Nat.le_trans (Nat.pow_le_pow_right (by decide) hn) (by decide)
  · obtain ⟨⟨q1, q2⟩, _⟩ := mem_due.mp hq
    refine ⟨?_, fun x hx => by have := q2 x hx; omega⟩
    have h1 := subs_le n _ List.length_range q ((mem_subs n q).mpr ⟨q1, q2⟩)
    omega
def fiSame : FI := ⟨[true, true, false, true], 0, fun ds post _ => ∃ n rs, ds = [.deck, nD n, ttD rs, ttD (dueL n rs)] ∧ n ≤ 6 ∧ rs ≠ [] ∧ rs.length ≤ 10 ∧ (∀ row ∈ rs, row.Perm (List.range n)) ∧ post (.bl true)⟩
theorem v_same {T : Tb} (h2 : T.fs[2]? = some fiStrets) (h4 : T.fs[4]? = some drawFI) (h5 : T.fs[5]? = some fiPick) (h6 : T.fs[6]? = some fiMixed) (k1 : T.ks[1]? = some ⟨2, 0, ["rows", "size"], [1, 0]⟩) (ds : List D) (post : D → Prop) (ex : XD → Prop) (h : fiSame.sp ds post ex) : wB T cb__law_is_same (startE 6 ds) (E0 post ex) := by
  obtain ⟨n, rs, rfl, hn, hne, b1, b2, hp⟩ := h
  simp only [cb__law_is_same, wB, wS, wE, wL]
  refine ⟨ttD rs, rfl, rs.map tD, rfl, by rw [List.length_map]; omega, ?_⟩
  refine goLc_rel (fun d y => y = d ∨ ∃ r : List Nat, d = tD r ∧ y = tD r.reverse) _ _ _ ?_ ?_
  · intro d hd
    obtain ⟨r, hr, rfl⟩ := List.mem_map.mp hd
    refine ⟨_, rfl, fun p hp => hp, fun p hp => ⟨.deck, rfl, drawFI, h4, 2, rfl, by decide, fun i i0 hi => ⟨_, rfl, ?_⟩⟩⟩
    split
    · refine ⟨tD r, rfl, hp _ (.inr ⟨r, rfl, ?_⟩)⟩
      unfold tD; rw [List.map_reverse]
    · exact ⟨tD r, rfl, hp _ (.inl rfl)⟩
  · intro ys hys
    obtain ⟨bs, rfl, hl, m1, m2⟩ := bent_of rs hys
    rw [List.nil_append]
    have bne : bs.map tD ≠ [] := by
      intro z
      have := List.length_eq_zero_iff.mpr (List.map_eq_nil_iff.mp z)
      rw [hl] at this
      exact hne (List.length_eq_zero_iff.mp this)
    refine ⟨.deck, rfl, .lst (bs.map tD), rfl, .deck, rfl, .lst (bs.map tD), rfl, fiPick, h5, .lst (bs.map tD), bs.map tD, rfl, rfl, bne, by rw [List.length_map]; omega, fun e he => ?_⟩
    obtain ⟨b, hb, rfl⟩ := List.mem_map.mp he
    refine ⟨by show 1 ≤ sizeLine; decide, by rw [List.length_map, sizeLine_eq]; show bs.length + 1 ≤ _; omega, fiMixed, h6, _, bs.map tD ++ [tD b], rfl, rfl, by rw [List.length_append, List.length_map]; show bs.length + 1 ≤ 1000; omega, fun zs hzs => ?_⟩
    obtain ⟨cs, rfl, pc⟩ := perm_map hzs (bs ++ [b]) (by rw [List.map_append]; rfl)
    have mc : ∀ c, c ∈ cs ↔ c ∈ bs := fun c => by
      rw [pc.mem_iff, List.mem_append, List.mem_singleton]
      exact ⟨fun z => z.elim id fun e => e ▸ hb, .inl⟩
    have hc : ∀ c ∈ cs, c.Perm (List.range n) := fun c hc => by
      rcases m1 c ((mc c).mp hc) with z | ⟨r, hr, rfl⟩
      · exact b2 c z
      · exact (List.reverse_perm r).trans (b2 r hr)
    have lc : cs.length = rs.length + 1 := by rw [pc.length_eq, List.length_append, hl]; rfl
    have e1 : strets n cs = dueL n rs := by
      rw [strets_dueG (fun z => by rw [z] at lc; cases lc) hc]
      exact due_bentG b2 (fun c hc => m1 c ((mc c).mp hc)) fun r hr => (m2 r hr).imp (mc _).mpr (mc _).mpr
    have e2 : strets n rs.reverse = dueL n rs := by
      rw [strets_dueG (fun z => hne (List.reverse_eq_nil_iff.mp z)) fun r hr => b2 r (List.mem_reverse.mp hr)]
      exact due_mem fun r => List.mem_reverse
    refine ⟨nD n, rfl, .lst (cs.map tD), rfl, fiStrets, h2, n, cs, rfl, hn, (fun z => by rw [z] at lc; cases lc), by omega, hc, ?_⟩
    refine ⟨ttD rs, rfl, nD n, rfl, _, fiStrets, k1, h2, n, rs.reverse, ?_, hn, (fun z => hne (List.reverse_eq_nil_iff.mp z)), by rw [List.length_reverse]; omega, fun r hr => b2 r (List.mem_reverse.mp hr), ?_⟩
    · show [nD n, D.tup (rs.map tD).reverse] = _
      rw [← List.map_reverse]; rfl
    rw [e1, e2]
    refine ⟨by show 2 ≤ sizeLine; decide, fit_ttt (l := [dueL n rs, dueL n rs]) (by simp) (by simp [ok_due hn]), ?_⟩
    refine ⟨ttD (dueL n rs), rfl, ttD (dueL n rs), rfl, by show 2 ≤ sizeLine; decide, fit_ttt (l := [dueL n rs, dueL n rs]) (by simp) (by simp [ok_due hn]), ?_⟩
    have hp' : post (.bl (decide ((py (.lst [ttD (dueL n rs), ttD (dueL n rs)])).shown = (py (.lst [ttD (dueL n rs), ttD (dueL n rs)])).shown))) := by
      rw [decide_eq_true rfl]; exact hp
    exact hp'
end K84
set_option Elab.async false
set_option linter.all false
set_option maxRecDepth 100000
set_option maxHeartbeats 4000000
namespace K84
open PySem PySem.Spec PyProof.Rows L2 VI
theorem eq_self (s : Str) {post : D → Prop} (hp : post (.bl true)) : post (.bl (decide (s = s))) := by rw [decide_eq_true rfl]; exact hp
theorem atI_get {l : List Nat} {x : Nat} (h : x < l.length) : atI (l.map nD) (x : Nat) = some (nD (l.getD x 0)) := by
  rw [atI_nat (by rw [List.length_map]; exact h), List.getElem?_map, List.getD_eq_getElem?_getD, List.getElem?_eq_getElem h]; rfl
def fiRenamed : FI := ⟨[true, true, false, false], 0, fun ds post _ => ∃ n rs, ds = [.deck, nD n, ttD rs, ttD (dueL n rs)] ∧ n ≤ 6 ∧ rs ≠ [] ∧ rs.length ≤ 10 ∧ (∀ row ∈ rs, row.Perm (List.range n)) ∧ post (.bl true)⟩
/-- [names[thing] for thing in l] -/
theorem map_names {nm : List Nat} {l : List Nat} (hl : ∀ x ∈ l, x < nm.length) {bind : D → Option VI.Env} {cond : VI.Env → (Bool → Prop) → Prop} {elt : VI.Env → (D → Prop) → Prop} {post : List D → Prop}
    (h : ∀ x ∈ l, ∃ env, bind (nD x) = some env ∧ (∀ p : Bool → Prop, p true → cond env p) ∧ ∀ p : D → Prop, p (nD (nm.getD x 0)) → elt env p) (hp : post ((l.map fun x => nm.getD x 0).map nD)) : goLc bind cond elt (l.map nD) [] post := by
  refine goLc_fun (fun _ => true) (fun d => match d with | .int i => nD (nm.getD i.toNat 0) | _ => .non) _ _ _ ?_ ?_
  · intro d hd
    obtain ⟨x, hx, rfl⟩ := List.mem_map.mp hd
    obtain ⟨env, h1, h2, h3⟩ := h x hx
    exact ⟨env, h1, h2, fun _ => h3⟩
  · rw [List.nil_append, List.filter_eq_self.mpr (fun _ _ => rfl), List.map_map]
    rw [List.map_map] at hp
    exact hp
theorem v_renamed {T : Tb} (h2 : T.fs[2]? = some fiStrets) (h6 : T.fs[6]? = some fiMixed) (ds : List D) (post : D → Prop) (ex : XD → Prop) (h : fiRenamed.sp ds post ex) : wB T cb__law_is_renamed (startE 10 ds) (E0 post ex) := by
  obtain ⟨n, rs, rfl, hn, hne, b1, b2, hp⟩ := h
  simp only [cb__law_is_renamed, wB, wS, wE, wL]
  refine ⟨.deck, rfl, nD n, rfl, n, rfl, by omega, by omega, ?_⟩
  rw [if_neg (by decide)]
  refine ⟨fiMixed, h6, .lst (rngD 0 n), rngD 0 n, rfl, rfl, ?_, fun ys hys => ?_⟩
  · rw [rng_n, List.length_map, List.length_range]; omega
  rw [rng_n] at hys
  obtain ⟨nm, rfl, pn⟩ := perm_map hys _ rfl
  have ln : nm.length = n := by rw [pn.length_eq, List.length_range]
  have F := nm_of pn
  generalize hf : (fun x => nm.getD x 0) = f at F
  refine ⟨ttD rs, rfl, rs.map tD, rfl, by rw [List.length_map]; omega, ?_⟩
  refine goLc_fun (fun _ => true) (fun d => match d with | .tup es => .tup (es.map fun e => match e with | .int i => nD (nm.getD i.toNat 0) | _ => .non) | _ => .non) _ _ _ ?_ ?_
  · intro d hd
    obtain ⟨r, hr, rfl⟩ := List.mem_map.mp hd
    have lr : r.length = n := by rw [(b2 r hr).length_eq, List.length_range]
    refine ⟨_, rfl, fun p hp => hp, fun _ p hp => ?_⟩
    refine ⟨tD r, rfl, r.map nD, rfl, by rw [List.length_map]; omega, ?_⟩
    have lt : ∀ x ∈ r, x < nm.length := fun x hx => by rw [ln]; exact (perm_mem (b2 r hr) x).mp hx
    refine map_names lt (fun x hx => ⟨_, rfl, fun p hp => hp, fun p hp => ⟨lD nm, rfl, nD x, rfl, nD (nm.getD x 0), atI_get (lt x hx), hp⟩⟩) ?_
    have e : (r.map fun x => nm.getD x 0).map nD = (r.map nD).map (fun e => match e with | .int i => nD (nm.getD i.toNat 0) | _ => .non) := by
      rw [List.map_map, List.map_map]; rfl
    show p _
    rw [e]; exact hp
  have e1 : ((rs.map tD).filter fun _ => true).map (fun d => match d with | .tup es => D.tup (es.map fun e => match e with | .int i => nD (nm.getD i.toNat 0) | _ => .non) | _ => .non) = (rs.map fun r => r.map f).map tD := by
    rw [List.filter_eq_self.mpr (fun _ _ => rfl), List.map_map, List.map_map]
    refine List.map_congr_left fun r _ => ?_
    subst hf
    show D.tup ((r.map nD).map _) = .tup ((r.map fun x => nm.getD x 0).map nD)
    rw [List.map_map, List.map_map]; rfl
  rw [List.nil_append, e1]
  have okd := ok_due hn rs
  refine ⟨ttD (dueL n rs), rfl, (dueL n rs).map tD, rfl, by rw [List.length_map]; have := okd.1; omega, ?_⟩
  refine goLc_fun (fun _ => true) (fun d => match d with | .tup es => tD ((es.map fun e => match e with | .int i => nm.getD i.toNat 0 | _ => 0).mergeSort leN) | _ => .non) _ _ _ ?_ ?_
  · intro d hd
    obtain ⟨q, hq, rfl⟩ := List.mem_map.mp hd
    have ⟨⟨q1, q2⟩, _⟩ := mem_due.mp hq
    have okq := okd.2 q hq
    refine ⟨_, rfl, fun p hp => hp, fun _ p hp => ?_⟩
    refine ⟨tD q, rfl, q.map nD, rfl, by rw [List.length_map]; have := okq.1; omega, ?_⟩
    have lt : ∀ x ∈ q, x < nm.length := fun x hx => by rw [ln]; exact q2 x hx
    refine map_names lt (fun x hx => ⟨_, rfl, fun p hp => hp, fun p hp => ⟨lD nm, rfl, nD x, rfl, nD (nm.getD x 0), atI_get (lt x hx), hp⟩⟩) ?_
    have okm : okL (q.map fun x => nm.getD x 0) := ⟨by rw [List.length_map]; exact okq.1, fun y hy => by
      obtain ⟨x, hx, rfl⟩ := List.mem_map.mp hy
      have := F.lt x (q2 x hx)
      subst hf
      have h9 : nm.getD x 0 < n := this
      omega⟩
    refine ⟨_, rfl, fit_l okm, ?_, ?_, ?_⟩
    · rw [pys_map, List.map_map]
      exact PySem.W.AllAlike.of fun a b => by
        show PySem.W.alike (.int _) (.int _) = true
        simp [PySem.W.alike]
    · rw [pys_map, List.map_map]
      exact PySem.W.Sortable.others fun a => ⟨(fun z => nomatch z), (fun xs z => nomatch z)⟩
    rw [sort_n]
    have e : (q.map nD).map (fun e => match e with | .int i => nm.getD i.toNat 0 | _ => 0) = q.map fun x => nm.getD x 0 := by
      rw [List.map_map]; rfl
    have hp : p (tD (((q.map nD).map (fun e => match e with | .int i => nm.getD i.toNat 0 | _ => 0)).mergeSort leN)) := hp
    rw [e] at hp
    exact hp
  have e2 : (((dueL n rs).map tD).filter fun _ => true).map (fun d => match d with | .tup es => tD ((es.map fun e => match e with | .int i => nm.getD i.toNat 0 | _ => 0).mergeSort leN) | _ => .non) = ((dueL n rs).map fun q => (q.map f).mergeSort leN).map tD := by
    rw [List.filter_eq_self.mpr (fun _ _ => rfl), List.map_map, List.map_map]
    refine List.map_congr_left fun q _ => ?_
    subst hf
    show tD (((q.map nD).map _).mergeSort leN) = tD ((q.map fun x => nm.getD x 0).mergeSort leN)
    rw [List.map_map]; rfl
  rw [List.nil_append, e2]
  have hr' : ∀ r ∈ rs.map (fun r => r.map f), r.Perm (List.range n) := fun r hr => by
    obtain ⟨r0, h0, rfl⟩ := List.mem_map.mp hr
    exact F.row (b2 r0 h0)
  have ne' : rs.map (fun r => r.map f) ≠ [] := fun z => hne (List.map_eq_nil_iff.mp z)
  have es : strets n (rs.map fun r => r.map f) = ((dueL n rs).map fun q => (q.map f).mergeSort leN).mergeSort rk := by
    rw [strets_dueG ne' hr', F.due b2]
  have okS : okR (strets n (rs.map fun r => r.map f)) := by rw [strets_dueG ne' hr']; exact ok_due hn _
  refine wSortK_t ?_ ?_
  · rw [es] at okS
    refine ⟨by have := okS.1; rwa [List.length_mergeSort] at this, fun q hq => okS.2 q (List.mem_mergeSort.mpr hq)⟩
  refine ⟨nD n, rfl, _, rfl, fiStrets, h2, n, rs.map fun r => r.map f, rfl, hn, ne', by rw [List.length_map]; omega, hr', fit_tt okS, ?_⟩
  rw [← es]
  refine ⟨_, rfl, fit_tt okS, ?_⟩
  exact eq_self _ hp
end K84
set_option Elab.async false
set_option linter.all false
set_option maxRecDepth 100000
set_option maxHeartbeats 4000000
namespace K84
open PySem PySem.Spec PyProof.Rows L2 VI
def fiFewer : FI := ⟨[true, true, false, false], 0, fun ds post _ => ∃ n rs, ds = [.deck, nD n, ttD rs, ttD (dueL n rs)] ∧ 1 ≤ n ∧ n ≤ 6 ∧ rs ≠ [] ∧ rs.length ≤ 8 ∧ (∀ row ∈ rs, row.Perm (List.range n)) ∧ post (.bl true)⟩
def toT : D → List Nat
  | .tup es => es.map fun e => match e with | .int i => i.toNat | _ => 0
  | _ => []
theorem toT_t (q : List Nat) : toT (tD q) = q := by
  show (q.map nD).map _ = q
  rw [List.map_map]
  exact (List.map_congr_left fun x _ => rfl).trans (List.map_id q)
/-- a comprehension over tuples, told on lists of numbers -/
theorem goLc_t {rs : List (List Nat)} (c : List Nat → Bool) (g : List Nat → List Nat) {bind : D → Option VI.Env} {cond : VI.Env → (Bool → Prop) → Prop} {elt : VI.Env → (D → Prop) → Prop} {post : List D → Prop}
    (h : ∀ r ∈ rs, ∃ env, bind (tD r) = some env ∧ (∀ p : Bool → Prop, p (c r) → cond env p) ∧ (c r = true → ∀ p : D → Prop, p (tD (g r)) → elt env p)) (hp : post (((rs.filter c).map g).map tD)) : goLc bind cond elt (rs.map tD) [] post := by
  refine goLc_fun (fun d => c (toT d)) (fun d => tD (g (toT d))) _ _ _ ?_ ?_
  · intro d hd
    obtain ⟨r, hr, rfl⟩ := List.mem_map.mp hd
    rw [toT_t]
    exact h r hr
  · rw [List.nil_append, List.filter_map, List.map_map]
    have e1 : rs.filter ((fun d => c (toT d)) ∘ tD) = rs.filter c := List.filter_congr fun r _ => by
      show c (toT (tD r)) = c r
      rw [toT_t]
    have e2 : (rs.filter c).map ((fun d => tD (g (toT d))) ∘ tD) = ((rs.filter c).map g).map tD := by
      rw [List.map_map]
      exact List.map_congr_left fun r _ => by
        show tD (g (toT (tD r))) = tD (g r)
        rw [toT_t]
    rw [e1, e2]
    exact hp
theorem run_ok {n : Nat} {rs : List (List Nat)} (hn : n ≤ 6) (b2 : ∀ row ∈ rs, row.Perm (List.range n)) : ∀ row ∈ rs, okL row := fun row hr =>
  ⟨by rw [(b2 row hr).length_eq, List.length_range]; omega, fun x hx => by have := (perm_mem (b2 row hr) x).mp hx; omega⟩
theorem run_in {n : Nat} {rs : List (List Nat)} {q : List Nat} (b2 : ∀ row ∈ rs, row.Perm (List.range n)) (q2 : ∀ x ∈ q, x < n) (q3 : q ≠ []) : ∀ row ∈ rs, ∃ x ∈ row, x ∈ q := fun row hr => by
  cases q with
  | nil => exact absurd rfl q3
  | cons x q => exact ⟨x, (perm_mem (b2 row hr) x).mpr (q2 x List.mem_cons_self), List.mem_cons_self⟩
theorem v_fewer {T : Tb} (h2 : T.fs[2]? = some fiStrets) (h4 : T.fs[4]? = some drawFI) (h8 : T.fs[8]? = some fiRows) (h9 : T.fs[9]? = some fiIsRun) (h11 : T.fs[11]? = some fiDue) (h12 : T.fs[12]? = some fiWithout) (ds : List D) (post : D → Prop) (ex : XD → Prop) (h : fiFewer.sp ds post ex) : wB T cb__law_is_fewer (startE 12 ds) (E0 post ex) := by
  obtain ⟨n, rs, rfl, n1, hn, hne, b1, b2, hp⟩ := h
  simp only [cb__law_is_fewer, wB, wS, wE, wL]
  refine ⟨.deck, rfl, nD n, rfl, .deck, rfl, drawFI, h4, 2, rfl, by decide, fun i i0 hi => ?_⟩
  have i2 : i < 2 := by rcases hi with z | ⟨_, z⟩ <;> omega
  refine ⟨fiRows, h8, n, 1 + i.toNat, ?_, by omega, n1, by omega, by omega, fun more lm pm => ?_⟩
  · show [D.deck, nD n, D.int (1 + i)] = [.deck, nD n, .int ((1 + i.toNat : Nat) : Int)]
    rw [show ((1 + i.toNat : Nat) : Int) = 1 + i by omega]
  have okd := ok_due hn rs
  refine ⟨ttD (dueL n rs), rfl, (dueL n rs).map tD, rfl, by rw [List.length_map]; have := okd.1; omega, ?_⟩
  refine goLc_t (fun q => more.all fun row => isRun row q) id ?_ ?_
  · intro q hq
    have ⟨⟨q1, q2⟩, q3, q4⟩ := mem_due.mp hq
    exact ⟨_, rfl, fun p hp => ⟨ttD more, rfl, tD q, rfl, fiIsRun, h9, more, q, rfl, by omega, run_ok hn pm, okd.2 q hq, run_in pm q2 q3, _, rfl, hp⟩, fun _ p hp => ⟨tD q, rfl, hp⟩⟩
  rw [List.map_id, ← due_more]
  have hall : ∀ r ∈ rs ++ more, r.Perm (List.range n) := fun r hr => (List.mem_append.mp hr).elim (b2 r) (pm r)
  have es : strets n (rs ++ more) = dueL n (rs ++ more) := strets_dueG (fun z => hne (List.append_eq_nil_iff.mp z).1) hall
  have okS := ok_due hn (rs ++ more)
  refine ⟨nD n, rfl, ttD rs, rfl, ttD more, rfl, by rw [List.length_map, List.length_map, sizeLine_eq]; omega, fiStrets, h2, n, rs ++ more, ?_, hn, (fun z => hne (List.append_eq_nil_iff.mp z).1), by rw [List.length_append]; omega, hall, ?_⟩
  · rw [← List.map_append]; rfl
  rw [es]
  refine ⟨fit_tt okS, _, rfl, fit_tt okS, ?_⟩
  refine ⟨!decide ((py (ttD (dueL n (rs ++ more)))).shown = (py (ttD (dueL n (rs ++ more)))).shown), rfl, ?_⟩
  rw [decide_eq_true rfl, if_neg (by decide)]
  refine ⟨.deck, rfl, nD n, rfl, drawFI, h4, (n : Nat), rfl, by omega, fun ti t0 ht => ?_⟩
  obtain ⟨t, rfl⟩ : ∃ t : Nat, ti = t := ⟨ti.toNat, by omega⟩
  have htn : t < n := by rcases ht with z | ⟨_, z⟩ <;> omega
  refine ⟨ttD rs, rfl, rs.map tD, rfl, by rw [List.length_map]; omega, ?_⟩
  refine goLc_t (fun _ => true) (fun r => without r t) ?_ ?_
  · intro r hr
    exact ⟨_, rfl, fun p hp => hp, fun _ p hp => ⟨tD r, rfl, .int t, rfl, fiWithout, h12, r, t, rfl, run_ok hn b2 r hr, by omega, hp⟩⟩
  rw [List.filter_eq_self.mpr (fun _ _ => rfl)]
  have b3 : ∀ r ∈ rs.map (fun r => without r t), r.Perm (List.range (n - 1)) := fun r hr => by
    obtain ⟨r0, h0, rfl⟩ := List.mem_map.mp hr
    exact wo_row htn (b2 r0 h0)
  have ne3 : rs.map (fun r => without r t) ≠ [] := fun z => hne (List.map_eq_nil_iff.mp z)
  have e3 := strets_dueG ne3 b3
  have ok3 := ok_due (n := n - 1) (by omega) (rs.map fun r => without r t)
  have en : (n : Int) - 1 = ((n - 1 : Nat) : Int) := by omega
  refine ⟨nD n, rfl, ?_⟩
  show ∃ d, _ ∧ _
  refine ⟨ttD (rs.map fun r => without r t), rfl, fiStrets, h2, n - 1, rs.map (fun r => without r t), ?_, by omega, ne3, by rw [List.length_map]; omega, b3, ?_⟩
  · rw [en]; rfl
  rw [e3]
  refine ⟨ttD (dueL n rs), rfl, (dueL n rs).map tD, rfl, by rw [List.length_map]; have := okd.1; omega, ?_⟩
  refine goLc_t (fun _ => true) (fun q => without q t) ?_ ?_
  · intro q hq
    exact ⟨_, rfl, fun p hp => hp, fun _ p hp => ⟨tD q, rfl, .int t, rfl, fiWithout, h12, q, t, rfl, okd.2 q hq, by omega, hp⟩⟩
  rw [List.filter_eq_self.mpr (fun _ _ => rfl)]
  rw [if_neg (by decide)]
  refine ⟨.lst (((dueL n rs).map fun q => without q t).map tD), rfl, _, rfl, by rw [List.length_map, List.length_map]; have := okd.1; omega, ?_⟩
  refine goLc_fun (fun _ => false) (fun d => d) _ _ _ ?_ ?_
  · intro d hd
    obtain ⟨q', hq', rfl⟩ := List.mem_map.mp hd
    obtain ⟨q, hq, rfl⟩ := List.mem_map.mp hq'
    have okq : okL (without q t) := by
      have := okd.2 q hq
      refine ⟨?_, fun x hx => ?_⟩
      · rw [wo_eq, List.length_map]; exact Nat.le_trans (List.length_filter_le _ _) this.1
      · obtain ⟨y, h1, h2, rfl⟩ := mem_wo.mp hx
        have := this.2 y h1
        unfold dn; split <;> omega
    refine ⟨_, rfl, fun p hp => ?_, fun z => nomatch z⟩
    rw [if_neg (by decide)]
    refine ⟨tD (without q t), rfl, Nat.zero_le _, fit_t okq, fit_t okL_nil, _, rfl, ?_⟩
    have e0 : eqD (tD (without q t)) (.tup []) = decide (without q t = []) := eqD_t _ []
    rw [e0]
    by_cases hw : without q t = []
    · rw [decide_eq_true hw]
      exact hp
    · rw [decide_eq_false hw]
      show if true = true then _ else _
      rw [if_pos rfl, if_pos trivial]
      refine ⟨tD (without q t), rfl, ttD (dueL (n - 1) (rs.map fun r => without r t)), rfl, fit_t okq, fit_tt ok3, _, rfl, ?_⟩
      rw [any_t, decide_eq_true (wo_due b2 htn hq hw)]
      exact hp
  rw [List.filter_eq_nil_iff.mpr (fun _ _ => by decide), List.nil_append]
  refine ⟨Nat.zero_le _, fit_l okL_nil, fit_l okL_nil, _, rfl, ?_⟩
  show if true = true then _ else _
  rw [if_pos rfl, if_pos trivial]
  refine ⟨ttD (dueL (n - 1) (rs.map fun r => without r t)), rfl, nD n, rfl, ttD (rs.map fun r => without r t), rfl, fiDue, h11, n - 1, rs.map (fun r => without r t), ?_, by omega, by rw [List.length_map]; omega, b3, ?_⟩
  · show [D.int ((n : Int) - 1), _] = _
    rw [en]; rfl
  show post (.bl (decide (_ = _)))
  rw [decide_eq_true rfl]
  exact hp
end K84
set_option Elab.async false
set_option linter.all false
set_option maxRecDepth 100000
set_option maxHeartbeats 4000000
namespace K84
open PySem PySem.Spec PyProof.Rows L2 VI
def cbR : CB := (.cons (.for_ .seq (.cons (.var 3) .nil) (.one 4) (.cons (.asg false 7 (.blt .tuple (.cons (.var 4) .nil))) (.cons (.if_ (.cmp .NotEq (.blt .repr (.cons (.lst (.cons (.call 1 (.cons (.var 2) (.cons (.var 7) .nil))) (.cons (.callK 0 .nil (.cons (.var 7) (.cons (.var 2) .nil))) .nil))) .nil)) (.blt .repr (.cons (.lst (.cons (.cmp .In (.var 7) (.var 5)) (.cons (.cmp .In (.var 7) (.var 5)) .nil))) .nil))) (.cons (.ret (.bl false)) .nil) .nil) .nil))) (.cons (.if_ (.or_ (.cons (.not_ (.call 13 (.cons (.var 0) (.cons (.var 1) (.cons (.var 2) (.cons (.var 5) .nil)))))) (.cons (.not_ (.call 14 (.cons (.var 0) (.cons (.var 1) (.cons (.var 2) (.cons (.var 5) .nil)))))) .nil))) (.cons (.ret (.bl false)) .nil) .nil) (.cons (.ret (.and_ (.cons (.call 15 (.cons (.var 0) (.cons (.var 1) (.cons (.var 2) (.cons (.var 5) .nil))))) (.cons (.cmp .Eq (.blt .repr (.cons (.call 2 (.cons (.var 1) (.cons (.var 2) .nil))) .nil)) (.blt .repr (.cons (.var 5) .nil))) (.cons (.cmp .Eq (.blt .repr (.cons (.var 2) .nil)) (.var 6)) .nil))))) .nil)))
theorem cbR_eq : cb__law_is_right = (.cons (.par2 false false 5 6 (.blt .tuple (.cons (.call 11 (.cons (.var 1) (.cons (.var 2) .nil))) .nil)) (.blt .repr (.cons (.var 2) .nil))) (.cons (.if_ (.cmp .NotEq (.blt .repr (.cons (.call 2 (.cons (.var 1) (.cons (.var 2) .nil))) .nil)) (.blt .repr (.cons (.var 5) .nil))) (.cons (.ret (.bl false)) .nil) .nil) (.cons (.asg false 3 (.call 10 (.cons (.rng1 false (.var 1)) .nil))) (.cons (.if_ (.cmp .Gt (.var 1) (.int 4)) (.cons (.asg false 3 (.binL .Add (.lc .rng1 (.cons (.int 10) .nil) (.one 8) .nil (.call 5 (.cons (.var 0) (.cons (.var 3) .nil)))) (.lst (.cons (.blt .list (.cons (.call 5 (.cons (.var 0) (.cons (.var 5) .nil))) .nil)) (.cons (.lst .nil) .nil))))) .nil) .nil) cbR)))) := rfl

def fiRight : FI := ⟨[true, true, true], 0, fun ds post _ => ∃ n rs, ds = [.deck, nD n, ttD rs] ∧ 1 ≤ n ∧ n ≤ 6 ∧ rs ≠ [] ∧ rs.length ≤ 8 ∧ (∀ row ∈ rs, row.Perm (List.range n)) ∧ post (.bl true)⟩
section
variable {T : Tb}
structure RT (T : Tb) : Prop where
  h1 : T.fs[1]? = some fiStretch
  h2 : T.fs[2]? = some fiStrets
  h4 : T.fs[4]? = some drawFI
  h5 : T.fs[5]? = some fiPick
  h10 : T.fs[10]? = some fiSubsets
  h11 : T.fs[11]? = some fiDue
  h13 : T.fs[13]? = some fiSame
  h14 : T.fs[14]? = some fiRenamed
  h15 : T.fs[15]? = some fiFewer
  k0 : T.ks[0]? = some ⟨1, 0, ["lot", "rows"], [1, 0]⟩
theorem stretch_in {n : Nat} {rs : List (List Nat)} {q : List Nat} (hq : q ∈ subs (List.range n)) : (decide (q ≠ []) && rs.all fun row => isRun row q) = decide (q ∈ dueL n rs) := by
  obtain ⟨q1, q2⟩ := (mem_subs n q).mp hq
  rw [Bool.eq_iff_iff, Bool.and_eq_true, decide_eq_true_eq, decide_eq_true_eq, mem_due]
  exact ⟨fun h => ⟨⟨q1, q2⟩, h.1, h.2⟩, fun h => ⟨h.2.1, h.2.2⟩⟩
theorem sub_ok {n : Nat} (hn : n ≤ 6) {q : List Nat} (hq : q ∈ subs (List.range n)) : okL q := by
  obtain ⟨q1, q2⟩ := (mem_subs n q).mp hq
  have := subs_le n _ List.length_range q hq
  exact ⟨by omega, fun x hx => by have := q2 x hx; omega⟩
theorem v_tail (R : RT T) {n : Nat} {rs : List (List Nat)} (n1 : 1 ≤ n) (hn : n ≤ 6) (hne : rs ≠ []) (b1 : rs.length ≤ 8) (b2 : ∀ row ∈ rs, row.Perm (List.range n)) {lots : List D} (hl : ∀ d ∈ lots, ∃ q ∈ subs (List.range n), d = lD q) {post : D → Prop} {ex : XD → Prop} (hp : post (.bl true)) (x8 : Option D) :
    wB T cbR [some .deck, some (nD n), some (ttD rs), some (.lst lots), none, some (ttD (dueL n rs)), some (.str (py (ttD rs)).shown), none, x8] (E0 post ex) := by
  simp only [cbR, wB, wS, wE, wL, Bool.false_eq_true, reduceIte]
  have okd := ok_due hn rs
  have okr := run_ok hn b2
  refine ⟨.lst lots, rfl, lots, rfl, ?_⟩
  refine goF_inv (fun i env => ∃ a b c, env = [some .deck, some (nD n), some (ttD rs), some (.lst lots), a, some (ttD (dueL n rs)), some (.str (py (ttD rs)).shown), b, c]) _ 0 _ _ ⟨none, none, x8, rfl⟩ ?_ ?_
  · rintro i d env hd ⟨a, b, c, rfl⟩
    obtain ⟨q, hq, rfl⟩ := hl d (List.mem_of_getElem? hd)
    obtain ⟨q1, q2⟩ := (mem_subs n q).mp hq
    have okq := sub_ok hn hq
    refine ⟨_, rfl, fun E' nx ct rt ex' bk => ?_⟩
    refine ⟨lD q, rfl, ?_⟩
    have hin : q ≠ [] → ∀ row ∈ rs, ∃ x ∈ row, x ∈ q := run_in b2 q2
    have fl : Fit (.lst [.bl (decide (q ∈ dueL n rs)), .bl (decide (q ∈ dueL n rs))]) := ⟨[2], ⟨by simp, by simp [Bd]⟩, by decide, by decide⟩
    refine ⟨ttD rs, rfl, tD q, rfl, fiStretch, R.h1, rs, q, rfl, by omega, okr, okq, hin, tD q, rfl, ttD rs, rfl, ⟨1, 0, ["lot", "rows"], [1, 0]⟩, fiStretch, R.k0, R.h1, rs, q, rfl, by omega, okr, okq, hin, ?_⟩
    rw [stretch_in hq]
    refine ⟨by show 2 ≤ sizeLine; decide, fl, ?_⟩
    refine ⟨tD q, rfl, ttD (dueL n rs), rfl, fit_t okq, fit_tt okd, tD q, rfl, ttD (dueL n rs), rfl, fit_t okq, fit_tt okd, ?_⟩
    rw [Bool.false_xor, any_t]
    refine ⟨by show 2 ≤ sizeLine; decide, fl, ?_⟩
    refine ⟨!decide ((py (.lst [.bl (decide (q ∈ dueL n rs)), .bl (decide (q ∈ dueL n rs))])).shown = (py (.lst [.bl (decide (q ∈ dueL n rs)), .bl (decide (q ∈ dueL n rs))])).shown), rfl, ?_⟩
    rw [decide_eq_true rfl, if_neg (by decide)]
    exact nx _ ⟨_, _, _, rfl⟩
  · rintro env ⟨a, b, c, rfl⟩
    refine ⟨.deck, rfl, nD n, rfl, ttD rs, rfl, ttD (dueL n rs), rfl, fiSame, R.h13, n, rs, rfl, hn, hne, by omega, b2, true, rfl, ?_⟩
    rw [if_neg (by decide)]
    refine ⟨.deck, rfl, nD n, rfl, ttD rs, rfl, ttD (dueL n rs), rfl, fiRenamed, R.h14, n, rs, rfl, hn, hne, by omega, b2, true, rfl, ?_⟩
    rw [if_neg (by decide)]
    refine ⟨.deck, rfl, nD n, rfl, ttD rs, rfl, ttD (dueL n rs), rfl, fiFewer, R.h15, n, rs, rfl, n1, hn, hne, b1, b2, true, rfl, ?_⟩
    rw [if_pos rfl]
    have es := strets_dueG hne b2
    have okS : okR (strets n rs) := by rw [es]; exact okd
    refine ⟨nD n, rfl, ttD rs, rfl, fiStrets, R.h2, n, rs, rfl, hn, hne, by omega, b2, fit_tt okS, ?_⟩
    rw [es]
    refine ⟨ttD (dueL n rs), rfl, fit_tt okd, true, by rw [decide_eq_true rfl], ?_⟩
    rw [if_pos rfl]
    refine ⟨ttD rs, rfl, fit_tt ⟨by omega, okr⟩, _, rfl, ?_⟩
    exact eq_self _ hp
theorem zero_due {n : Nat} {rs : List (List Nat)} (n1 : 1 ≤ n) (b2 : ∀ row ∈ rs, row.Perm (List.range n)) : [0] ∈ dueL n rs := by
  refine mem_due.mpr ⟨⟨List.pairwise_singleton _ _, fun x hx => by rw [List.mem_singleton.mp hx]; omega⟩, List.cons_ne_nil _ _, List.all_eq_true.mpr fun r hr => ?_⟩
  refine (run_of (b2 r hr) (List.pairwise_singleton _ _) (fun x hx => by rw [List.mem_singleton.mp hx]; omega) (List.cons_ne_nil _ _)).mpr ?_
  obtain ⟨u, t, e⟩ := List.append_of_mem ((perm_mem (b2 r hr) 0).mpr (by omega))
  exact ⟨u, [0], t, by rw [e]; simp, .refl _⟩
theorem v_right (R : RT T) (ds : List D) (post : D → Prop) (ex : XD → Prop) (h : fiRight.sp ds post ex) : wB T cb__law_is_right (startE 9 ds) (E0 post ex) := by
  obtain ⟨n, rs, rfl, n1, hn, hne, b1, b2, hp⟩ := h
  have okd := ok_due hn rs
  have okr := run_ok hn b2
  have fin := fun {lots : List D} hl x8 => v_tail R n1 hn hne b1 b2 (lots := lots) hl (post := post) (ex := ex) hp x8
  have es := strets_dueG hne b2
  rw [cbR_eq]
  simp only [wB, wS, wE, wL]
  refine ⟨nD n, rfl, ttD rs, rfl, fiDue, R.h11, n, rs, rfl, hn, by omega, b2, ?_⟩
  refine ⟨ttD rs, rfl, fit_tt ⟨by omega, okr⟩, ?_⟩
  refine ⟨nD n, rfl, ttD rs, rfl, fiStrets, R.h2, n, rs, rfl, hn, hne, by omega, b2, ?_⟩
  rw [es]
  refine ⟨fit_tt okd, ttD (dueL n rs), rfl, fit_tt okd, !decide ((py (ttD (dueL n rs))).shown = (py (ttD (dueL n rs))).shown), rfl, ?_⟩
  rw [decide_eq_true rfl, if_neg (by decide)]
  refine ⟨nD n, rfl, n, rfl, by omega, by omega, ?_⟩
  rw [if_neg (by decide), rng_n]
  refine ⟨fiSubsets, R.h10, List.range n, rfl, by rw [List.length_range]; omega, ?_⟩
  refine ⟨nD n, rfl, decide ((4 : Int) < n), rfl, ?_⟩
  have sl : (subs (List.range n)).length ≤ 64 := by
    rw [subs_len n _ List.length_range]
    exact Nat.le_trans (Nat.pow_le_pow_right (by decide) hn) (by decide)
  have nil_sub : ([] : List Nat) ∈ subs (List.range n) := (mem_subs n []).mpr ⟨.nil, fun _ h => nomatch h⟩
  by_cases h4 : (4 : Int) < n
  · rw [if_pos (decide_eq_true h4)]
    refine ⟨by decide, by decide, by decide, ?_⟩
    refine goLc_rel (fun d y => ∃ q ∈ subs (List.range n), y = lD q) _ _ _ ?_ ?_
    · intro d hd
      refine ⟨_, rfl, fun p hp => hp, fun p hp => ⟨.deck, rfl, .lst ((subs (List.range n)).map lD), rfl, fiPick, R.h5, _, _, rfl, rfl, ?_, by rw [List.length_map]; omega, fun e he => ?_⟩⟩
      · intro z
        have := List.map_eq_nil_iff.mp z
        rw [this] at nil_sub; cases nil_sub
      · obtain ⟨q, hq, rfl⟩ := List.mem_map.mp he
        exact hp _ ⟨q, hq, rfl⟩
    · intro ys hys
      rw [List.nil_append]
      have hy : ∀ y ∈ ys, ∃ q ∈ subs (List.range n), y = lD q := fun y hy => by
        obtain ⟨j, hj⟩ := List.getElem?_of_mem hy
        obtain ⟨d, _, q, hq, e⟩ := pr_get' hys hj
        exact ⟨q, hq, e⟩
      have ly : ys.length = 10 := (pr_len hys).symm
      refine ⟨.deck, rfl, ttD (dueL n rs), rfl, fiPick, R.h5, _, _, rfl, rfl, ?_, by rw [List.length_map]; have := okd.1; omega, fun e he => ?_⟩
      · intro z
        have := List.map_eq_nil_iff.mp z
        have h0 := zero_due n1 b2
        rw [this] at h0; cases h0
      obtain ⟨q, hq, rfl⟩ := List.mem_map.mp he
      refine ⟨Nat.zero_le _, by show 2 ≤ sizeLine; decide, by rw [ly]; show 12 ≤ sizeLine; decide, ?_⟩
      refine fin (fun d hd => ?_) none
      rcases List.mem_append.mp hd with z | z
      · exact hy d z
      · simp only [List.mem_cons, List.not_mem_nil, or_false] at z
        rcases z with rfl | rfl
        · exact ⟨q, (mem_subs n q).mpr (mem_due.mp hq).1, rfl⟩
        · exact ⟨[], nil_sub, rfl⟩
  · rw [if_neg (by rw [decide_eq_true_eq]; exact h4)]
    refine fin (fun d hd => ?_) none
    obtain ⟨q, hq, rfl⟩ := List.mem_map.mp hd
    exact ⟨q, hq, rfl⟩
end
end K84
set_option Elab.async false
set_option linter.all false
set_option maxRecDepth 100000
set_option maxHeartbeats 4000000
namespace K84
open PySem PySem.Spec PyProof.Rows L2 VI
instance (l : List Nat) : Decidable (okL l) := by unfold okL; exact inferInstance
theorem due_ex : strets 3 [[0, 1, 2], [1, 0, 2]] = [[0], [1], [2], [0, 1], [0, 1, 2]] := by
  rw [strets_dueG (List.cons_ne_nil _ _) (by decide)]
  unfold dueL
  have e : ((subs (List.range 3)).filter fun q => decide (q ≠ [])).filter (fun q => [[0, 1, 2], [1, 0, 2]].all fun row => isRun row q) = [[0], [1], [0, 1], [2], [0, 1, 2]] := by decide +kernel
  rw [e, rk_cong (m := [[0], [1], [2], [0, 1], [0, 1, 2]]) (by decide)]
  exact List.mergeSort_of_pairwise (by decide +kernel)
theorem v_law {T : Tb} (h1 : T.fs[1]? = some fiStretch) (h2 : T.fs[2]? = some fiStrets) (h4 : T.fs[4]? = some drawFI) (h5 : T.fs[5]? = some fiPick) (h8 : T.fs[8]? = some fiRows) (h16 : T.fs[16]? = some fiRight) :
    wB T (tailB cb_law) (none :: some .deck :: List.replicate 4 none) ⟨fun _ => False, fun d => d = .bl true, fun _ => False, fun _ => False, noX⟩ := by
  simp only [cb_law, tailB, wB, wS, wE, wL, Bool.false_eq_true, reduceIte]
  show _ < _ ∧ _
  refine ⟨by decide, by decide, ?_⟩
  refine goF_inv (fun i env => ∃ a b, env = [none, some .deck, a, none, none, b]) _ 0 _ _ ⟨none, none, rfl⟩ ?_ ?_
  · rintro i d env hd ⟨a, b, rfl⟩
    refine ⟨_, rfl, fun E' nx ct rt ex' bk => ?_⟩
    have go : ∃ ls : List D, ls ≠ [] ∧ ls.length < 100 ∧ (∀ e ∈ ls, ∃ n : Nat, e = nD n ∧ 1 ≤ n ∧ n ≤ 6) ∧ ∀ p : D → Prop, p (.lst ls) → ∃ y, some (some d) = some (some y) ∧ wIx (.lst [.lst [.int 1, .int 2, .int 3, .int 4], .lst [.int 4, .int 5], .lst [.int 3, .int 5, .int 6, .int 6]]) y p := by
      match i, hd with
      | 0, hd =>
        cases hd
        refine ⟨_, ?_, ?_, ?_, fun p hp => ⟨_, rfl, _, rfl, hp⟩⟩
        · exact List.cons_ne_nil _ _
        · decide
        · intro e he
          simp only [List.mem_cons, List.not_mem_nil, or_false] at he
          rcases he with rfl | rfl | rfl | rfl
          · exact ⟨1, rfl, by decide, by decide⟩
          · exact ⟨2, rfl, by decide, by decide⟩
          · exact ⟨3, rfl, by decide, by decide⟩
          · exact ⟨4, rfl, by decide, by decide⟩
      | 1, hd =>
        cases hd
        refine ⟨_, ?_, ?_, ?_, fun p hp => ⟨_, rfl, _, rfl, hp⟩⟩
        · exact List.cons_ne_nil _ _
        · decide
        · intro e he
          simp only [List.mem_cons, List.not_mem_nil, or_false] at he
          rcases he with rfl | rfl
          · exact ⟨4, rfl, by decide, by decide⟩
          · exact ⟨5, rfl, by decide, by decide⟩
      | 2, hd =>
        cases hd
        refine ⟨_, ?_, ?_, ?_, fun p hp => ⟨_, rfl, _, rfl, hp⟩⟩
        · exact List.cons_ne_nil _ _
        · decide
        · intro e he
          simp only [List.mem_cons, List.not_mem_nil, or_false] at he
          rcases he with rfl | rfl | rfl | rfl
          · exact ⟨3, rfl, by decide, by decide⟩
          · exact ⟨5, rfl, by decide, by decide⟩
          · exact ⟨6, rfl, by decide, by decide⟩
          · exact ⟨6, rfl, by decide, by decide⟩
      | i + 3, hd => simp at hd
    obtain ⟨ls, l1, l2, l3, l4⟩ := go
    refine ⟨.deck, rfl, by show 4 ≤ sizeLine; decide, by show 2 ≤ sizeLine; decide, by show 4 ≤ sizeLine; decide, by show 3 ≤ sizeLine; decide, l4 _ ⟨fiPick, h5, .lst ls, ls, rfl, rfl, l1, by omega, fun e he => ?_⟩⟩
    obtain ⟨n, rfl, n1, n6⟩ := l3 e he
    refine ⟨.deck, rfl, nD n, rfl, .deck, rfl, nD n, rfl, .deck, rfl, drawFI, h4, 4, rfl, by decide, fun j j0 hj => ?_⟩
    have j4 : j < 4 := by rcases hj with z | ⟨_, z⟩ <;> omega
    refine ⟨fiRows, h8, n, 1 + j.toNat, ?_, by omega, n1, by omega, by omega, fun rs lr pr => ?_⟩
    · show [D.deck, nD n, D.int (1 + j)] = [.deck, nD n, .int ((1 + j.toNat : Nat) : Int)]
      rw [show ((1 + j.toNat : Nat) : Int) = 1 + j by omega]
    refine ⟨fiRight, h16, n, rs, rfl, n1, n6, (fun z => by rw [z] at lr; have : (0 : Nat) = 1 + j.toNat := lr; omega), by omega, pr, true, rfl, ?_⟩
    rw [if_neg (by decide)]
    exact nx _ ⟨_, _, rfl⟩
  · rintro env ⟨a, b, rfl⟩
    refine ⟨by show 3 ≤ sizeLine; decide, by show 3 ≤ sizeLine; decide, by show 2 ≤ sizeLine; decide, ttD [[0, 1, 2], [1, 0, 2]], rfl, fiStrets, h2, 3, [[0, 1, 2], [1, 0, 2]], rfl, by decide, List.cons_ne_nil _ _, by decide, by decide, ?_⟩
    rw [due_ex]
    refine ⟨ttD [[0, 1, 2], [1, 0, 2]], rfl, by show 2 ≤ sizeLine; decide, fiStretch, h1, [[0, 1, 2], [1, 0, 2]], [0, 1], rfl, by decide, by decide, by decide, by decide, ?_⟩
    refine ⟨ttD [[0, 1, 2], [1, 0, 2]], rfl, by show 2 ≤ sizeLine; decide, fiStretch, h1, [[0, 1, 2], [1, 0, 2]], [1, 2], rfl, by decide, by decide, by decide, by decide, ?_⟩
    refine ⟨ttD [[0, 1, 2], [1, 0, 2]], rfl, Nat.zero_le _, fiStretch, h1, [[0, 1, 2], [1, 0, 2]], [], rfl, by decide, by decide, by decide, by decide, ?_⟩
    have b1 : (decide ([0, 1] ≠ []) && [[0, 1, 2], [1, 0, 2]].all fun row => isRun row [0, 1]) = true := by decide +kernel
    have b2 : (decide ([1, 2] ≠ []) && [[0, 1, 2], [1, 0, 2]].all fun row => isRun row [1, 2]) = false := by decide +kernel
    have b3 : (decide (([] : List Nat) ≠ []) && [[0, 1, 2], [1, 0, 2]].all fun row => isRun row []) = false := by decide +kernel
    rw [b1, b2, b3]
    refine ⟨by show 4 ≤ sizeLine; decide, _, rfl, ?_⟩
    have ft : Fit (.lst [ttD [[0], [1], [2], [0, 1], [0, 1, 2]], .bl true, .bl false, .bl false]) := ⟨[4, 200, 12], ⟨by decide, by
      intro d hd
      simp only [List.mem_cons, List.not_mem_nil, or_false] at hd
      rcases hd with rfl | rfl | rfl | rfl
      · exact bd_tt (l := [[0], [1], [2], [0, 1], [0, 1, 2]]) ⟨by decide, by decide⟩
      all_goals simp [Bd]⟩, by decide, by decide⟩
    refine ⟨ft, ?_⟩
    refine ⟨by decide, by decide, by decide, by decide, by decide, by decide, by decide, ft, ?_⟩
    exact eq_self (post := fun d => d = .bl true) _ rfl
end K84
set_option Elab.async false
set_option linter.all false
set_option maxRecDepth 100000
set_option maxHeartbeats 0
namespace K84
open PySem PySem.Spec PyProof.Rows L2 VI
def fiNone : FI := ⟨[true], 0, fun _ _ _ => False⟩
def TT : Tb := ⟨[fiKey, fiStretch, fiStrets, fiNone, drawFI, fiPick, fiMixed, fiKey, fiRows, fiIsRun, fiSubsets, fiDue, fiWithout, fiSame, fiRenamed, fiFewer, fiRight], [⟨1, 0, ["lot", "rows"], [1, 0]⟩, ⟨2, 0, ["rows", "size"], [1, 0]⟩]⟩
abbrev RX : RXT := fun _ _ _ _ => False
def d__lot_key : He.DefD := ⟨("_lot_key", none), "_lot_key", "_lot_key", defArgs st__lot_key, defBody st__lot_key, defScope st__lot_key, [], []⟩
def d_is_stretch : He.DefD := ⟨("is_stretch", none), "is_stretch", "is_stretch", defArgs st_is_stretch, defBody st_is_stretch, defScope st_is_stretch, [], []⟩
def d_stretches : He.DefD := ⟨("stretches", none), "stretches", "stretches", defArgs st_stretches, defBody st_stretches, defScope st_stretches, [], []⟩
def d__law_well : He.DefD := ⟨("_law_well", none), "_law_well", "_law_well", defArgs st__law_well, defBody st__law_well, defScope st__law_well, [], []⟩
def d__law_draw : He.DefD := ⟨("_law_draw", none), "_law_draw", "_law_draw", defArgs st__law_draw, defBody st__law_draw, defScope st__law_draw, [], []⟩
def d__law_pick : He.DefD := ⟨("_law_pick", none), "_law_pick", "_law_pick", defArgs st__law_pick, defBody st__law_pick, defScope st__law_pick, [], []⟩
def d__law_mixed : He.DefD := ⟨("_law_mixed", none), "_law_mixed", "_law_mixed", defArgs st__law_mixed, defBody st__law_mixed, defScope st__law_mixed, [], []⟩
def d__law_rank : He.DefD := ⟨("_law_rank", none), "_law_rank", "_law_rank", defArgs st__law_rank, defBody st__law_rank, defScope st__law_rank, [], []⟩
def d__law_rows : He.DefD := ⟨("_law_rows", none), "_law_rows", "_law_rows", defArgs st__law_rows, defBody st__law_rows, defScope st__law_rows, [], []⟩
def d__law_is_run : He.DefD := ⟨("_law_is_run", none), "_law_is_run", "_law_is_run", defArgs st__law_is_run, defBody st__law_is_run, defScope st__law_is_run, [], []⟩
def d__law_subsets : He.DefD := ⟨("_law_subsets", none), "_law_subsets", "_law_subsets", defArgs st__law_subsets, defBody st__law_subsets, defScope st__law_subsets, [], []⟩
def d__law_due : He.DefD := ⟨("_law_due", none), "_law_due", "_law_due", defArgs st__law_due, defBody st__law_due, defScope st__law_due, [], []⟩
def d__law_without : He.DefD := ⟨("_law_without", none), "_law_without", "_law_without", defArgs st__law_without, defBody st__law_without, defScope st__law_without, [], []⟩
def d__law_is_same : He.DefD := ⟨("_law_is_same", none), "_law_is_same", "_law_is_same", defArgs st__law_is_same, defBody st__law_is_same, defScope st__law_is_same, [], []⟩
def d__law_is_renamed : He.DefD := ⟨("_law_is_renamed", none), "_law_is_renamed", "_law_is_renamed", defArgs st__law_is_renamed, defBody st__law_is_renamed, defScope st__law_is_renamed, [], []⟩
def d__law_is_fewer : He.DefD := ⟨("_law_is_fewer", none), "_law_is_fewer", "_law_is_fewer", defArgs st__law_is_fewer, defBody st__law_is_fewer, defScope st__law_is_fewer, [], []⟩
def d__law_is_right : He.DefD := ⟨("_law_is_right", none), "_law_is_right", "_law_is_right", defArgs st__law_is_right, defBody st__law_is_right, defScope st__law_is_right, [], []⟩
def d_law : He.DefD := ⟨("law", none), "law", "law", defArgs st_law, defBody st_law, defScope st_law, [], []⟩
def fn : List He.DefD := [d__lot_key, d_is_stretch, d_stretches, d__law_well, d__law_draw, d__law_pick, d__law_mixed, d__law_rank, d__law_rows, d__law_is_run, d__law_subsets, d__law_due, d__law_without, d__law_is_same, d__law_is_renamed, d__law_is_fewer, d__law_is_right, d_law]
def fa : List He.Fa := [.glo "_lot_key", .glo "is_stretch", .glo "stretches", .glo "_law_well", .glo "_law_draw", .glo "_law_pick", .glo "_law_mixed", .glo "_law_rank", .glo "_law_rows", .glo "_law_is_run", .glo "_law_subsets", .glo "_law_due", .glo "_law_without", .glo "_law_is_same", .glo "_law_is_renamed", .glo "_law_is_fewer", .glo "_law_is_right", .glo "law", .free "len", .free "tuple", .free "list", .free "all", .free "any", .free "int", .free "abs", .free "repr", .free "min", .free "max", .free "sorted", .free "range", .free "enumerate", .free "zip"]
abbrev FnP (K : PySem.W.Frag) (x : PySem.Str) (st : Stmt) (f : Addr) (fd : FuncData) : Prop := FunD K x x (defArgs st) (defBody st) (defScope st) [] [] f fd
section
variable {P : Program} {w : World} {K : PySem.W.Frag} {h : Heap} {mg : PySem.Str → Option Value} {base : Heap}
theorem fr_ok (X : K.In h) (G : h.Ns mainGlobals mg) (c : He.SaysD fa fn K) : (∀ b : Blt, mg b.nm = none) ∧ (mg "range" = none ∧ mg "enumerate" = none ∧ mg "zip" = none) := by
  refine ⟨fun b => ?_, He.free_ok X G (c.fact 29 (f := .free "range") rfl), He.free_ok X G (c.fact 30 (f := .free "enumerate") rfl), He.free_ok X G (c.fact 31 (f := .free "zip") rfl)⟩
  cases b
  · exact He.free_ok X G (c.fact 18 (f := .free "len") rfl)
  · exact He.free_ok X G (c.fact 19 (f := .free "tuple") rfl)
  · exact He.free_ok X G (c.fact 20 (f := .free "list") rfl)
  · exact He.free_ok X G (c.fact 21 (f := .free "all") rfl)
  · exact He.free_ok X G (c.fact 22 (f := .free "any") rfl)
  · exact He.free_ok X G (c.fact 23 (f := .free "int") rfl)
  · exact He.free_ok X G (c.fact 24 (f := .free "abs") rfl)
  · exact He.free_ok X G (c.fact 25 (f := .free "repr") rfl)
  · exact He.free_ok X G (c.fact 26 (f := .free "min") rfl)
  · exact He.free_ok X G (c.fact 27 (f := .free "max") rfl)
  · exact He.free_ok X G (c.fact 28 (f := .free "sorted") rfl)
theorem gf__lot_key (X : K.In h) (G : h.Ns mainGlobals mg) (c : He.SaysD fa fn K) : ∃ f fd, mg "_lot_key" = some (.ref f) ∧ FnP K "_lot_key" st__lot_key f fd ∧ Binds K fd ["lot"] [] := by
  obtain ⟨fd, F⟩ := c.def_ 0 (d := d__lot_key) rfl
  exact ⟨_, fd, He.glo_ok X G (c.fact 0 (f := .glo "_lot_key") rfl), F, FunD.bindsN F fun _ _ _ _ _ _ us hl => match us, hl with | [_], _ => rfl⟩
theorem gf_is_stretch (X : K.In h) (G : h.Ns mainGlobals mg) (c : He.SaysD fa fn K) : ∃ f fd, mg "is_stretch" = some (.ref f) ∧ FnP K "is_stretch" st_is_stretch f fd ∧ Binds K fd ["rows", "lot"] [] := by
  obtain ⟨fd, F⟩ := c.def_ 1 (d := d_is_stretch) rfl
  exact ⟨_, fd, He.glo_ok X G (c.fact 1 (f := .glo "is_stretch") rfl), F, FunD.bindsN F fun _ _ _ _ _ _ us hl => match us, hl with | [_, _], _ => rfl⟩
theorem gf_stretches (X : K.In h) (G : h.Ns mainGlobals mg) (c : He.SaysD fa fn K) : ∃ f fd, mg "stretches" = some (.ref f) ∧ FnP K "stretches" st_stretches f fd ∧ Binds K fd ["size", "rows"] [] := by
  obtain ⟨fd, F⟩ := c.def_ 2 (d := d_stretches) rfl
  exact ⟨_, fd, He.glo_ok X G (c.fact 2 (f := .glo "stretches") rfl), F, FunD.bindsN F fun _ _ _ _ _ _ us hl => match us, hl with | [_, _], _ => rfl⟩
theorem gf__law_well (X : K.In h) (G : h.Ns mainGlobals mg) (c : He.SaysD fa fn K) : ∃ f fd, mg "_law_well" = some (.ref f) ∧ FnP K "_law_well" st__law_well f fd ∧ Binds K fd ["_law_script"] [] := by
  obtain ⟨fd, F⟩ := c.def_ 3 (d := d__law_well) rfl
  exact ⟨_, fd, He.glo_ok X G (c.fact 3 (f := .glo "_law_well") rfl), F, FunD.bindsN F fun _ _ _ _ _ _ us hl => match us, hl with | [_], _ => rfl⟩
theorem gf__law_draw (X : K.In h) (G : h.Ns mainGlobals mg) (c : He.SaysD fa fn K) : ∃ f fd, mg "_law_draw" = some (.ref f) ∧ FnP K "_law_draw" st__law_draw f fd ∧ Binds K fd ["_law_well_here", "_law_many"] [] := by
  obtain ⟨fd, F⟩ := c.def_ 4 (d := d__law_draw) rfl
  exact ⟨_, fd, He.glo_ok X G (c.fact 4 (f := .glo "_law_draw") rfl), F, FunD.bindsN F fun _ _ _ _ _ _ us hl => match us, hl with | [_, _], _ => rfl⟩
theorem gf__law_pick (X : K.In h) (G : h.Ns mainGlobals mg) (c : He.SaysD fa fn K) : ∃ f fd, mg "_law_pick" = some (.ref f) ∧ FnP K "_law_pick" st__law_pick f fd ∧ Binds K fd ["_law_well_here", "_law_items"] [] := by
  obtain ⟨fd, F⟩ := c.def_ 5 (d := d__law_pick) rfl
  exact ⟨_, fd, He.glo_ok X G (c.fact 5 (f := .glo "_law_pick") rfl), F, FunD.bindsN F fun _ _ _ _ _ _ us hl => match us, hl with | [_, _], _ => rfl⟩
theorem gf__law_mixed (X : K.In h) (G : h.Ns mainGlobals mg) (c : He.SaysD fa fn K) : ∃ f fd, mg "_law_mixed" = some (.ref f) ∧ FnP K "_law_mixed" st__law_mixed f fd ∧ Binds K fd ["_law_well_here", "_law_items"] [] := by
  obtain ⟨fd, F⟩ := c.def_ 6 (d := d__law_mixed) rfl
  exact ⟨_, fd, He.glo_ok X G (c.fact 6 (f := .glo "_law_mixed") rfl), F, FunD.bindsN F fun _ _ _ _ _ _ us hl => match us, hl with | [_, _], _ => rfl⟩
theorem gf__law_rank (X : K.In h) (G : h.Ns mainGlobals mg) (c : He.SaysD fa fn K) : ∃ f fd, mg "_law_rank" = some (.ref f) ∧ FnP K "_law_rank" st__law_rank f fd ∧ Binds K fd ["_law_lot"] [] := by
  obtain ⟨fd, F⟩ := c.def_ 7 (d := d__law_rank) rfl
  exact ⟨_, fd, He.glo_ok X G (c.fact 7 (f := .glo "_law_rank") rfl), F, FunD.bindsN F fun _ _ _ _ _ _ us hl => match us, hl with | [_], _ => rfl⟩
theorem gf__law_rows (X : K.In h) (G : h.Ns mainGlobals mg) (c : He.SaysD fa fn K) : ∃ f fd, mg "_law_rows" = some (.ref f) ∧ FnP K "_law_rows" st__law_rows f fd ∧ Binds K fd ["_law_well_here", "_law_size", "_law_many"] [] := by
  obtain ⟨fd, F⟩ := c.def_ 8 (d := d__law_rows) rfl
  exact ⟨_, fd, He.glo_ok X G (c.fact 8 (f := .glo "_law_rows") rfl), F, FunD.bindsN F fun _ _ _ _ _ _ us hl => match us, hl with | [_, _, _], _ => rfl⟩
theorem gf__law_is_run (X : K.In h) (G : h.Ns mainGlobals mg) (c : He.SaysD fa fn K) : ∃ f fd, mg "_law_is_run" = some (.ref f) ∧ FnP K "_law_is_run" st__law_is_run f fd ∧ Binds K fd ["_law_rows_here", "_law_lot"] [] := by
  obtain ⟨fd, F⟩ := c.def_ 9 (d := d__law_is_run) rfl
  exact ⟨_, fd, He.glo_ok X G (c.fact 9 (f := .glo "_law_is_run") rfl), F, FunD.bindsN F fun _ _ _ _ _ _ us hl => match us, hl with | [_, _], _ => rfl⟩
theorem gf__law_subsets (X : K.In h) (G : h.Ns mainGlobals mg) (c : He.SaysD fa fn K) : ∃ f fd, mg "_law_subsets" = some (.ref f) ∧ FnP K "_law_subsets" st__law_subsets f fd ∧ Binds K fd ["_law_items"] [] := by
  obtain ⟨fd, F⟩ := c.def_ 10 (d := d__law_subsets) rfl
  exact ⟨_, fd, He.glo_ok X G (c.fact 10 (f := .glo "_law_subsets") rfl), F, FunD.bindsN F fun _ _ _ _ _ _ us hl => match us, hl with | [_], _ => rfl⟩
theorem gf__law_due (X : K.In h) (G : h.Ns mainGlobals mg) (c : He.SaysD fa fn K) : ∃ f fd, mg "_law_due" = some (.ref f) ∧ FnP K "_law_due" st__law_due f fd ∧ Binds K fd ["_law_size", "_law_rows_here"] [] := by
  obtain ⟨fd, F⟩ := c.def_ 11 (d := d__law_due) rfl
  exact ⟨_, fd, He.glo_ok X G (c.fact 11 (f := .glo "_law_due") rfl), F, FunD.bindsN F fun _ _ _ _ _ _ us hl => match us, hl with | [_, _], _ => rfl⟩
theorem gf__law_without (X : K.In h) (G : h.Ns mainGlobals mg) (c : He.SaysD fa fn K) : ∃ f fd, mg "_law_without" = some (.ref f) ∧ FnP K "_law_without" st__law_without f fd ∧ Binds K fd ["_law_lot", "_law_thing"] [] := by
  obtain ⟨fd, F⟩ := c.def_ 12 (d := d__law_without) rfl
  exact ⟨_, fd, He.glo_ok X G (c.fact 12 (f := .glo "_law_without") rfl), F, FunD.bindsN F fun _ _ _ _ _ _ us hl => match us, hl with | [_, _], _ => rfl⟩
theorem gf__law_is_same (X : K.In h) (G : h.Ns mainGlobals mg) (c : He.SaysD fa fn K) : ∃ f fd, mg "_law_is_same" = some (.ref f) ∧ FnP K "_law_is_same" st__law_is_same f fd ∧ Binds K fd ["_law_well_here", "_law_size", "_law_rows_here", "_law_due_here"] [] := by
  obtain ⟨fd, F⟩ := c.def_ 13 (d := d__law_is_same) rfl
  exact ⟨_, fd, He.glo_ok X G (c.fact 13 (f := .glo "_law_is_same") rfl), F, FunD.bindsN F fun _ _ _ _ _ _ us hl => match us, hl with | [_, _, _, _], _ => rfl⟩
theorem gf__law_is_renamed (X : K.In h) (G : h.Ns mainGlobals mg) (c : He.SaysD fa fn K) : ∃ f fd, mg "_law_is_renamed" = some (.ref f) ∧ FnP K "_law_is_renamed" st__law_is_renamed f fd ∧ Binds K fd ["_law_well_here", "_law_size", "_law_rows_here", "_law_due_here"] [] := by
  obtain ⟨fd, F⟩ := c.def_ 14 (d := d__law_is_renamed) rfl
  exact ⟨_, fd, He.glo_ok X G (c.fact 14 (f := .glo "_law_is_renamed") rfl), F, FunD.bindsN F fun _ _ _ _ _ _ us hl => match us, hl with | [_, _, _, _], _ => rfl⟩
theorem gf__law_is_fewer (X : K.In h) (G : h.Ns mainGlobals mg) (c : He.SaysD fa fn K) : ∃ f fd, mg "_law_is_fewer" = some (.ref f) ∧ FnP K "_law_is_fewer" st__law_is_fewer f fd ∧ Binds K fd ["_law_well_here", "_law_size", "_law_rows_here", "_law_due_here"] [] := by
  obtain ⟨fd, F⟩ := c.def_ 15 (d := d__law_is_fewer) rfl
  exact ⟨_, fd, He.glo_ok X G (c.fact 15 (f := .glo "_law_is_fewer") rfl), F, FunD.bindsN F fun _ _ _ _ _ _ us hl => match us, hl with | [_, _, _, _], _ => rfl⟩
theorem gf__law_is_right (X : K.In h) (G : h.Ns mainGlobals mg) (c : He.SaysD fa fn K) : ∃ f fd, mg "_law_is_right" = some (.ref f) ∧ FnP K "_law_is_right" st__law_is_right f fd ∧ Binds K fd ["_law_well_here", "_law_size", "_law_rows_here"] [] := by
  obtain ⟨fd, F⟩ := c.def_ 16 (d := d__law_is_right) rfl
  exact ⟨_, fd, He.glo_ok X G (c.fact 16 (f := .glo "_law_is_right") rfl), F, FunD.bindsN F fun _ _ _ _ _ _ us hl => match us, hl with | [_, _, _], _ => rfl⟩
theorem gf_law (X : K.In h) (G : h.Ns mainGlobals mg) (c : He.SaysD fa fn K) : ∃ f fd, mg "law" = some (.ref f) ∧ FnP K "law" st_law f fd ∧ Binds K fd ["_law_script"] [] := by
  obtain ⟨fd, F⟩ := c.def_ 17 (d := d_law) rfl
  exact ⟨_, fd, He.glo_ok X G (c.fact 17 (f := .glo "law") rfl), F, FunD.bindsN F fun _ _ _ _ _ _ us hl => match us, hl with | [_], _ => rfl⟩
theorem kb_0 {f : Addr} {fd : FuncData} (F : FnP K "is_stretch" st_is_stretch f fd) : KBn K fd ["rows", "lot"] 0 ["lot", "rows"] (fun us ws => [1, 0].map fun i => (us ++ ws).getD i Value.none) (fun vs zs => [1, 0].map fun i => (vs ++ zs).getD i V.non) :=
  kbn_of F (fun _ _ _ _ _ _ us ws l1 l2 => match us, l1, ws, l2 with | [], _, [_, _], _ => rfl)
theorem kb_1 {f : Addr} {fd : FuncData} (F : FnP K "stretches" st_stretches f fd) : KBn K fd ["size", "rows"] 0 ["rows", "size"] (fun us ws => [1, 0].map fun i => (us ++ ws).getD i Value.none) (fun vs zs => [1, 0].map fun i => (vs ++ zs).getD i V.non) :=
  kbn_of F (fun _ _ _ _ _ _ us ws l1 l2 => match us, l1, ws, l2 with | [], _, [_, _], _ => rfl)
theorem mf_all (X : K.In base) (G : base.Ns mainGlobals mg) (c : He.SaysD fa fn K) (dk g cc : Addr) (cs : List Int) (st : Int) (n1 : dk ≠ g) (n2 : dk ≠ cc) (n3 : g ≠ cc) (h1 : cs ≠ []) (h2 : cs.length ≤ 100) : MF (wellW "great" "cells" "stirred" "count" dk g cc cs st) RX TT P w K mg base 22 (fsA.take 17) ks_law ky_law := by
  obtain ⟨bl, rg⟩ := fr_ok X G c
  have M : MF (wellW "great" "cells" "stirred" "count" dk g cc cs st) RX TT P w K mg base 5 (fsA.take 0) [] [] := ⟨bl, rg, fun i nm md dp e => (nomatch e), fun c f n nms pm e => (nomatch e), fun i nm md dp e => (nomatch e)⟩
  obtain ⟨f0, fd0, m0, F0, b0⟩ := gf__lot_key X G c
  have G0 : FnG P w K mg base 6 f0 fd0 ["lot"] (SpV (wellW "great" "cells" "stirred" "count" dk g cc cs st) RX fiKey) := fn_V M (by decide) (fun_of F0) sc__lot_key rfl rfl ck__lot_key fun ds post ex h => v_key TT ds post ex h
  have M : MF (wellW "great" "cells" "stirred" "count" dk g cc cs st) RX TT P w K mg base 6 (fsA.take 1) [] [] := (M.up (by decide)).snoc (nm := "_lot_key") (md := [true]) (dp := 0) ⟨fiKey, f0, fd0, _, rfl, rfl, rfl, m0, F0.kp, b0, rfl, G0⟩ (ks_lt (by decide)) (by decide)
  have M : MF (wellW "great" "cells" "stirred" "count" dk g cc cs st) RX TT P w K mg base 6 (fsA.take 1) [] [0] := M.key (i := 0) fun nm md dp e => by
    cases e
    exact rank_fn (fun_of F0) sc__lot_key m0 (bl .len) rfl (.inl rfl) rfl rfl rfl b0
  obtain ⟨f1, fd1, m1, F1, b1⟩ := gf_is_stretch X G c
  have G1 : FnG P w K mg base 7 f1 fd1 ["rows", "lot"] (SpV (wellW "great" "cells" "stirred" "count" dk g cc cs st) RX fiStretch) := fn_V M (by decide) (fun_of F1) sc_is_stretch rfl rfl ck_is_stretch fun ds post ex h => v_stretch (T := TT) ds post ex h
  have M : MF (wellW "great" "cells" "stirred" "count" dk g cc cs st) RX TT P w K mg base 7 (fsA.take 2) [] [0] := (M.up (by decide)).snoc (nm := "is_stretch") (md := [true, false]) (dp := 0) ⟨fiStretch, f1, fd1, _, rfl, rfl, rfl, m1, F1.kp, b1, rfl, G1⟩ (ks_lt (by decide)) (by decide)
  have M : MF (wellW "great" "cells" "stirred" "count" dk g cc cs st) RX TT P w K mg base 7 (fsA.take 2) [(1, 0, ["lot", "rows"], [1, 0])] [0] := M.kw (f := 1) (n := 0) (nms := ["lot", "rows"]) (pm := [1, 0]) rfl fun nm md dp e => by
    cases e
    exact ⟨fiStretch, f1, fd1, _, rfl, rfl, rfl, m1, F1.kp, kb_0 F1, G1⟩
  obtain ⟨f2, fd2, m2, F2, b2⟩ := gf_stretches X G c
  have G2 : FnG P w K mg base 8 f2 fd2 ["size", "rows"] (SpV (wellW "great" "cells" "stirred" "count" dk g cc cs st) RX fiStrets) := fn_V M (by decide) (fun_of F2) sc_stretches rfl rfl ck_stretches fun ds post ex h => v_strets (T := TT) rfl ds post ex h
  have M : MF (wellW "great" "cells" "stirred" "count" dk g cc cs st) RX TT P w K mg base 8 (fsA.take 3) [(1, 0, ["lot", "rows"], [1, 0])] [0] := (M.up (by decide)).snoc (nm := "stretches") (md := [true, true]) (dp := 0) ⟨fiStrets, f2, fd2, _, rfl, rfl, rfl, m2, F2.kp, b2, rfl, G2⟩ (ks_lt (by decide)) (by decide)
  have M : MF (wellW "great" "cells" "stirred" "count" dk g cc cs st) RX TT P w K mg base 8 (fsA.take 3) [(1, 0, ["lot", "rows"], [1, 0]), (2, 0, ["rows", "size"], [1, 0])] [0] := M.kw (f := 2) (n := 0) (nms := ["rows", "size"]) (pm := [1, 0]) rfl fun nm md dp e => by
    cases e
    exact ⟨fiStrets, f2, fd2, _, rfl, rfl, rfl, m2, F2.kp, kb_1 F2, G2⟩
  obtain ⟨f3, fd3, m3, F3, b3⟩ := gf__law_well X G c
  have G3 : FnG P w K mg base 9 f3 fd3 ["_law_script"] (SpV (wellW "great" "cells" "stirred" "count" dk g cc cs st) RX fiNone) := ((well_ok (P := P) (w := w) (mg := mg) (base := base) (fun_of F3) (bl .len) (bl .int)).up (by decide)).less fun xs hp q e z => (by obtain ⟨_, _, _, _, _, _, z, _⟩ := z; exact z.elim)
  have M : MF (wellW "great" "cells" "stirred" "count" dk g cc cs st) RX TT P w K mg base 9 (fsA.take 4) [(1, 0, ["lot", "rows"], [1, 0]), (2, 0, ["rows", "size"], [1, 0])] [0] := (M.up (by decide)).snoc (nm := "_law_well") (md := [true]) (dp := 0) ⟨fiNone, f3, fd3, _, rfl, rfl, rfl, m3, F3.kp, b3, rfl, G3⟩ (ks_lt (by decide)) (by decide)
  obtain ⟨f4, fd4, m4, F4, b4⟩ := gf__law_draw X G c
  have G4 : FnG P w K mg base 10 f4 fd4 ["_law_well_here", "_law_many"] (SpV (wellW "great" "cells" "stirred" "count" dk g cc cs st) RX drawFI) := (draw_ok (RX := RX) (P := P) (w := w) (mg := mg) (base := base) (fun_of F4) (bl .len) (bl .int) n1 n2 n3 h1 h2).up (by decide)
  have M : MF (wellW "great" "cells" "stirred" "count" dk g cc cs st) RX TT P w K mg base 10 (fsA.take 5) [(1, 0, ["lot", "rows"], [1, 0]), (2, 0, ["rows", "size"], [1, 0])] [0] := (M.up (by decide)).snoc (nm := "_law_draw") (md := [true, true]) (dp := 0) ⟨drawFI, f4, fd4, _, rfl, rfl, rfl, m4, F4.kp, b4, rfl, G4⟩ (ks_lt (by decide)) (by decide)
  obtain ⟨f5, fd5, m5, F5, b5⟩ := gf__law_pick X G c
  have G5 : FnG P w K mg base 11 f5 fd5 ["_law_well_here", "_law_items"] (SpV (wellW "great" "cells" "stirred" "count" dk g cc cs st) RX fiPick) := fn_V M (by decide) (fun_of F5) sc__law_pick rfl rfl ck__law_pick fun ds post ex h => v_pick TT rfl ds post ex h
  have M : MF (wellW "great" "cells" "stirred" "count" dk g cc cs st) RX TT P w K mg base 11 (fsA.take 6) [(1, 0, ["lot", "rows"], [1, 0]), (2, 0, ["rows", "size"], [1, 0])] [0] := (M.up (by decide)).snoc (nm := "_law_pick") (md := [true, false]) (dp := 0) ⟨fiPick, f5, fd5, _, rfl, rfl, rfl, m5, F5.kp, b5, rfl, G5⟩ (ks_lt (by decide)) (by decide)
  obtain ⟨f6, fd6, m6, F6, b6⟩ := gf__law_mixed X G c
  have G6 : FnG P w K mg base 12 f6 fd6 ["_law_well_here", "_law_items"] (SpV (wellW "great" "cells" "stirred" "count" dk g cc cs st) RX fiMixed) := fn_V M (by decide) (fun_of F6) sc__law_mixed rfl rfl ck__law_mixed fun ds post ex h => v_mixed TT rfl ds post ex h
  have M : MF (wellW "great" "cells" "stirred" "count" dk g cc cs st) RX TT P w K mg base 12 (fsA.take 7) [(1, 0, ["lot", "rows"], [1, 0]), (2, 0, ["rows", "size"], [1, 0])] [0] := (M.up (by decide)).snoc (nm := "_law_mixed") (md := [true, false]) (dp := 0) ⟨fiMixed, f6, fd6, _, rfl, rfl, rfl, m6, F6.kp, b6, rfl, G6⟩ (ks_lt (by decide)) (by decide)
  obtain ⟨f7, fd7, m7, F7, b7⟩ := gf__law_rank X G c
  have G7 : FnG P w K mg base 13 f7 fd7 ["_law_lot"] (SpV (wellW "great" "cells" "stirred" "count" dk g cc cs st) RX fiKey) := fn_V M (by decide) (fun_of F7) sc__law_rank rfl rfl ck__law_rank fun ds post ex h => v_key TT ds post ex h
  have M : MF (wellW "great" "cells" "stirred" "count" dk g cc cs st) RX TT P w K mg base 13 (fsA.take 8) [(1, 0, ["lot", "rows"], [1, 0]), (2, 0, ["rows", "size"], [1, 0])] [0] := (M.up (by decide)).snoc (nm := "_law_rank") (md := [true]) (dp := 0) ⟨fiKey, f7, fd7, _, rfl, rfl, rfl, m7, F7.kp, b7, rfl, G7⟩ (ks_lt (by decide)) (by decide)
  have M : MF (wellW "great" "cells" "stirred" "count" dk g cc cs st) RX TT P w K mg base 13 (fsA.take 8) [(1, 0, ["lot", "rows"], [1, 0]), (2, 0, ["rows", "size"], [1, 0])] [7, 0] := M.key (i := 7) fun nm md dp e => by
    cases e
    exact rank_fn (fun_of F7) sc__law_rank m7 (bl .len) rfl (.inl rfl) rfl rfl rfl b7
  obtain ⟨f8, fd8, m8, F8, b8⟩ := gf__law_rows X G c
  have G8 : FnG P w K mg base 14 f8 fd8 ["_law_well_here", "_law_size", "_law_many"] (SpV (wellW "great" "cells" "stirred" "count" dk g cc cs st) RX fiRows) := fn_V M (by decide) (fun_of F8) sc__law_rows rfl rfl ck__law_rows fun ds post ex h => v_rows TT rfl rfl rfl ds post ex h
  have M : MF (wellW "great" "cells" "stirred" "count" dk g cc cs st) RX TT P w K mg base 14 (fsA.take 9) [(1, 0, ["lot", "rows"], [1, 0]), (2, 0, ["rows", "size"], [1, 0])] [7, 0] := (M.up (by decide)).snoc (nm := "_law_rows") (md := [true, true, false]) (dp := 0) ⟨fiRows, f8, fd8, _, rfl, rfl, rfl, m8, F8.kp, b8, rfl, G8⟩ (ks_lt (by decide)) (by decide)
  obtain ⟨f9, fd9, m9, F9, b9⟩ := gf__law_is_run X G c
  have G9 : FnG P w K mg base 15 f9 fd9 ["_law_rows_here", "_law_lot"] (SpV (wellW "great" "cells" "stirred" "count" dk g cc cs st) RX fiIsRun) := fn_V M (by decide) (fun_of F9) sc__law_is_run rfl rfl ck__law_is_run fun ds post ex h => v_isrun (T := TT) ds post ex h
  have M : MF (wellW "great" "cells" "stirred" "count" dk g cc cs st) RX TT P w K mg base 15 (fsA.take 10) [(1, 0, ["lot", "rows"], [1, 0]), (2, 0, ["rows", "size"], [1, 0])] [7, 0] := (M.up (by decide)).snoc (nm := "_law_is_run") (md := [true, false]) (dp := 0) ⟨fiIsRun, f9, fd9, _, rfl, rfl, rfl, m9, F9.kp, b9, rfl, G9⟩ (ks_lt (by decide)) (by decide)
  obtain ⟨f10, fd10, m10, F10, b10⟩ := gf__law_subsets X G c
  have G10 : FnG P w K mg base 16 f10 fd10 ["_law_items"] (SpV (wellW "great" "cells" "stirred" "count" dk g cc cs st) RX fiSubsets) := fn_V M (by decide) (fun_of F10) sc__law_subsets rfl rfl ck__law_subsets fun ds post ex h => v_subsets (T := TT) ds post ex h
  have M : MF (wellW "great" "cells" "stirred" "count" dk g cc cs st) RX TT P w K mg base 16 (fsA.take 11) [(1, 0, ["lot", "rows"], [1, 0]), (2, 0, ["rows", "size"], [1, 0])] [7, 0] := (M.up (by decide)).snoc (nm := "_law_subsets") (md := [true]) (dp := 0) ⟨fiSubsets, f10, fd10, _, rfl, rfl, rfl, m10, F10.kp, b10, rfl, G10⟩ (ks_lt (by decide)) (by decide)
  obtain ⟨f11, fd11, m11, F11, b11⟩ := gf__law_due X G c
  have G11 : FnG P w K mg base 17 f11 fd11 ["_law_size", "_law_rows_here"] (SpV (wellW "great" "cells" "stirred" "count" dk g cc cs st) RX fiDue) := fn_V M (by decide) (fun_of F11) sc__law_due rfl rfl ck__law_due fun ds post ex h => v_due (T := TT) rfl rfl ds post ex h
  have M : MF (wellW "great" "cells" "stirred" "count" dk g cc cs st) RX TT P w K mg base 17 (fsA.take 12) [(1, 0, ["lot", "rows"], [1, 0]), (2, 0, ["rows", "size"], [1, 0])] [7, 0] := (M.up (by decide)).snoc (nm := "_law_due") (md := [false, true]) (dp := 0) ⟨fiDue, f11, fd11, _, rfl, rfl, rfl, m11, F11.kp, b11, rfl, G11⟩ (ks_lt (by decide)) (by decide)
  obtain ⟨f12, fd12, m12, F12, b12⟩ := gf__law_without X G c
  have G12 : FnG P w K mg base 18 f12 fd12 ["_law_lot", "_law_thing"] (SpV (wellW "great" "cells" "stirred" "count" dk g cc cs st) RX fiWithout) := fn_V M (by decide) (fun_of F12) sc__law_without rfl rfl ck__law_without fun ds post ex h => v_without (T := TT) ds post ex h
  have M : MF (wellW "great" "cells" "stirred" "count" dk g cc cs st) RX TT P w K mg base 18 (fsA.take 13) [(1, 0, ["lot", "rows"], [1, 0]), (2, 0, ["rows", "size"], [1, 0])] [7, 0] := (M.up (by decide)).snoc (nm := "_law_without") (md := [false, false]) (dp := 0) ⟨fiWithout, f12, fd12, _, rfl, rfl, rfl, m12, F12.kp, b12, rfl, G12⟩ (ks_lt (by decide)) (by decide)
  obtain ⟨f13, fd13, m13, F13, b13⟩ := gf__law_is_same X G c
  have G13 : FnG P w K mg base 19 f13 fd13 ["_law_well_here", "_law_size", "_law_rows_here", "_law_due_here"] (SpV (wellW "great" "cells" "stirred" "count" dk g cc cs st) RX fiSame) := fn_V M (by decide) (fun_of F13) sc__law_is_same rfl rfl ck__law_is_same fun ds post ex h => v_same (T := TT) rfl rfl rfl rfl rfl ds post ex h
  have M : MF (wellW "great" "cells" "stirred" "count" dk g cc cs st) RX TT P w K mg base 19 (fsA.take 14) [(1, 0, ["lot", "rows"], [1, 0]), (2, 0, ["rows", "size"], [1, 0])] [7, 0] := (M.up (by decide)).snoc (nm := "_law_is_same") (md := [true, true, false, true]) (dp := 0) ⟨fiSame, f13, fd13, _, rfl, rfl, rfl, m13, F13.kp, b13, rfl, G13⟩ (ks_lt (by decide)) (by decide)
  obtain ⟨f14, fd14, m14, F14, b14⟩ := gf__law_is_renamed X G c
  have G14 : FnG P w K mg base 20 f14 fd14 ["_law_well_here", "_law_size", "_law_rows_here", "_law_due_here"] (SpV (wellW "great" "cells" "stirred" "count" dk g cc cs st) RX fiRenamed) := fn_V M (by decide) (fun_of F14) sc__law_is_renamed rfl rfl ck__law_is_renamed fun ds post ex h => v_renamed (T := TT) rfl rfl ds post ex h
  have M : MF (wellW "great" "cells" "stirred" "count" dk g cc cs st) RX TT P w K mg base 20 (fsA.take 15) [(1, 0, ["lot", "rows"], [1, 0]), (2, 0, ["rows", "size"], [1, 0])] [7, 0] := (M.up (by decide)).snoc (nm := "_law_is_renamed") (md := [true, true, false, false]) (dp := 0) ⟨fiRenamed, f14, fd14, _, rfl, rfl, rfl, m14, F14.kp, b14, rfl, G14⟩ (ks_lt (by decide)) (by decide)
  obtain ⟨f15, fd15, m15, F15, b15⟩ := gf__law_is_fewer X G c
  have G15 : FnG P w K mg base 21 f15 fd15 ["_law_well_here", "_law_size", "_law_rows_here", "_law_due_here"] (SpV (wellW "great" "cells" "stirred" "count" dk g cc cs st) RX fiFewer) := fn_V M (by decide) (fun_of F15) sc__law_is_fewer rfl rfl ck__law_is_fewer fun ds post ex h => v_fewer (T := TT) rfl rfl rfl rfl rfl rfl ds post ex h
  have M : MF (wellW "great" "cells" "stirred" "count" dk g cc cs st) RX TT P w K mg base 21 (fsA.take 16) [(1, 0, ["lot", "rows"], [1, 0]), (2, 0, ["rows", "size"], [1, 0])] [7, 0] := (M.up (by decide)).snoc (nm := "_law_is_fewer") (md := [true, true, false, false]) (dp := 0) ⟨fiFewer, f15, fd15, _, rfl, rfl, rfl, m15, F15.kp, b15, rfl, G15⟩ (ks_lt (by decide)) (by decide)
  obtain ⟨f16, fd16, m16, F16, b16⟩ := gf__law_is_right X G c
  have G16 : FnG P w K mg base 22 f16 fd16 ["_law_well_here", "_law_size", "_law_rows_here"] (SpV (wellW "great" "cells" "stirred" "count" dk g cc cs st) RX fiRight) := fn_V M (by decide) (fun_of F16) sc__law_is_right rfl rfl ck__law_is_right fun ds post ex h => v_right (T := TT) ⟨rfl, rfl, rfl, rfl, rfl, rfl, rfl, rfl, rfl, rfl⟩ ds post ex h
  have M : MF (wellW "great" "cells" "stirred" "count" dk g cc cs st) RX TT P w K mg base 22 (fsA.take 17) [(1, 0, ["lot", "rows"], [1, 0]), (2, 0, ["rows", "size"], [1, 0])] [7, 0] := (M.up (by decide)).snoc (nm := "_law_is_right") (md := [true, true, true]) (dp := 0) ⟨fiRight, f16, fd16, _, rfl, rfl, rfl, m16, F16.kp, b16, rfl, G16⟩ (ks_lt (by decide)) (by decide)
  exact M
theorem facts {fl : Addr} (X : K.In h) (G : h.Ns mainGlobals mg) (hfa : mg ("law" : PySem.Str) = some (.ref fl)) (c : He.SaysD fa fn K) : ∃ fd : FuncData, (∀ (s : Shared) (v : Value), BindsTo s fd ⟨[v], []⟩ [("_law_script", v)]) ∧ ∀ base : Heap, K.In base → base.Ns mainGlobals mg → FnG P w K mg base 23 fl fd ["_law_script"] (spLaw K) := by
  obtain ⟨fd, F⟩ := c.def_ 17 (d := d_law) rfl
  have e := hfa.symm.trans (He.glo_ok X G (c.fact 17 (f := .glo "law") rfl))
  cases e
  have b := FunD.bindsA (ps := ["_law_script"]) F fun _ _ _ _ _ _ us hl => match us, hl with | [_], _ => rfl
  refine ⟨fd, fun s v => b s [v] rfl, fun base X' G' => ?_⟩
  obtain ⟨fw, fdw, mw, Fw, bw⟩ := gf__law_well X' G' c
  obtain ⟨bl, _⟩ := fr_ok X' G' c
  exact law_ok (RX := RX) (T := TT) (k := 22) (fun_of F) ((well_ok (fun_of Fw) (bl .len) (bl .int)).up (by decide)) mw Fw.kp bw (by decide) (fun dk g cc cs st n1 n2 n3 h1 h2 => mf_all X' G' c dk g cc cs st n1 n2 n3 h1 h2) (v_law rfl rfl rfl rfl rfl rfl)
end
abbrev R0 : PySem.W.OpenRow := PySem.W.OpenLaw.row PySem.Challenge.rw_piecetrees_k84_rows_put_to_and_told_othe
abbrev hk : PySem.W.Hook := He.hookD 4 fa fn
def ob (s : PySem.W.SharedT) : He.AlD := He.obsDG 4 fa fn (HandSHeadRun.getT s)
theorem ob_eq (s : PySem.W.SharedT) : ob s = hk.obs s.abs := He.obsDG_eq (HandSHeadRun.getT_eq s)
def loose : List PySem.Str := (["_lot_key", "is_stretch", "stretches", "_law_well", "_law_draw", "_law_pick", "_law_mixed", "_law_rank", "_law_rows", "_law_is_run", "_law_subsets", "_law_due", "_law_without", "_law_is_same", "_law_is_renamed", "_law_is_fewer", "_law_is_right"] : List PySem.Str)
theorem run (w : World) : HandSHeadRun.RunEq R0 (PySem.W.view R0.prog [19]) hk ob 6000 loose w := by
  intro os
  kernel_rfl
end K84
open PySem PySem.W PySem.Calls PyProof.Rows
theorem PySem.Challenge.cw_piecetrees_k84_rows_put_to_and_told_othe_holds : PySem.Challenge.rw_piecetrees_k84_rows_put_to_and_told_othe.Holds := by
  w_on; o_law
  refine HandSHeadRun.head_any (r := OpenLaw.row PySem.Challenge.rw_piecetrees_k84_rows_put_to_and_told_othe) (q := view (OpenLaw.row PySem.Challenge.rw_piecetrees_k84_rows_put_to_and_told_othe).prog [19]) (H := K84.hk) (ob := K84.ob) (M := 6000) (loose := K84.loose) (d := HandSHeadRun.topDef (OpenLaw.row PySem.Challenge.rw_piecetrees_k84_rows_put_to_and_told_othe).prog 19) (kwd := []) K84.ob_eq
    (by kernel_rfl) (fun s => by kernel_rfl) K84.run (by kernel_rfl) (by kernel_rfl) (by kernel_rfl) (by rfl) (by first | assumption | decide +kernel) (by decide +kernel) ⟨rfl, rfl, rfl, rfl, rfl, by decide +kernel⟩ ?hw ?hc
  case hw => w_witness2
  case hc =>
    refine VI.walk_G (l := PySem.Challenge.rw_piecetrees_k84_rows_put_to_and_told_othe) (n := 63) (k := 23) (x := "_law_script") rfl (by decide) (by kernel_rfl) ⟨rfl, by decide, by decide⟩ ?F
    intro w mg fa h Y G hmg0
    obtain ⟨K, KX, c⟩ := Y
    have hmg : mg ("law" : PySem.Str) = some (.ref fa) := by
      have e : (HandSHeadRun.topDef (OpenLaw.row PySem.Challenge.rw_piecetrees_k84_rows_put_to_and_told_othe).prog 19).name = ("law" : PySem.Str) := by kernel_rfl
      rw [← e]
      exact hmg0
    obtain ⟨fd, hb, hF⟩ := K84.facts (P := (PySem.Challenge.rw_piecetrees_k84_rows_put_to_and_told_othe).prog) (w := w) KX G hmg c
    exact ⟨K, fd, K84.spLaw K, KX, hb, fun H a ns hl _ hS => ⟨a, ns, rfl, hS, hl, fun _ => rfl⟩, hF⟩
