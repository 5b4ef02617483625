import PyProof.Rows.All
import Wide.All
import OpenK.AllK
import Wide.FinOn
import PySem.Challenge.RW_or0026_01
set_option Elab.async false
section
open PySem PySem.W PyProof.Rows
set_option Elab.async false
namespace Mine
set_option maxRecDepth 100000 in
set_option maxHeartbeats 8000000 in
open_top hd for PySem.Challenge.rw_or0026_01
end Mine
end
section
open PySem PySem.W PySem.Calls PyProof.Rows
set_option Elab.async false
namespace Mine
abbrev PG : Program := Challenge.rw_or0026_01.row.prog
abbrev Led := List (Addr × Obj)
/-- what a call of the def at f gives back, from wherever it is called -/
def Says (w : World) (f : Addr) (n : Nat) (vs : List Value) (news : Led) (Out : Led → Value → Prop) : Prop :=
  ∀ (dp un : Nat) (gd : Option (List Code)) (cn : Str) (cs : Scope) (a : Addr) (ccd : Value) (cl : List (Str × Addr)) (outer : List Env) (A₀ : Around) (base h₀ : Heap) (L : Addr) (m : Str → Option Value) (mean : ExcName → Option Value) (mg mb : Str → Option Value) (s : Shared) (Q E : Value → Shared → Prop),
    Below A₀ base outer h₀ → Fr h₀ L s.heap m → (hd.heap_39 w.params).In h₀ → News h₀ L s.heap news → Top hd.view_39 (looseW hd.view_39 []) mean mg mb h₀ → cs.kind = .function →
    dp + n < recursionLimit → un + 8 * n < cLine →
    (∀ r tl h' tk', Fr h₀ L h' m → News h₀ L h' (tl ++ news) → Out tl r → Q r { s with heap := h', toks := tk' }) →
    wpAny (model PG w) (ktrTop dp un gd cn cs L a ccd cl outer) (call (.ref f) vs) Q E s
theorem Says.use {w : World} {f : Addr} {n : Nat} {vs : List Value} {news : Led} {Out : Led → Value → Prop} (C : Says w f n vs news Out)
    {dp un : Nat} {gd : Option (List Code)} {cn : Str} {cs : Scope} {a : Addr} {ccd : Value} {cl : List (Str × Addr)} {outer : List Env} {A₀ : Around} {base h₀ : Heap} {L : Addr} {m : Str → Option Value} {mean : ExcName → Option Value} {mg mb : Str → Option Value} {s : Shared} {Q E : Value → Shared → Prop}
    (B : Below A₀ base outer h₀) (F : Fr h₀ L s.heap m) (X : (hd.heap_39 w.params).In h₀) (N : News h₀ L s.heap news) (T : Top hd.view_39 (looseW hd.view_39 []) mean mg mb h₀) (hk : cs.kind = .function)
    (hd : dp + n < recursionLimit) (hu : un + 8 * n < cLine)
    (ret : ∀ r tl h' tk', Fr h₀ L h' m → News h₀ L h' (tl ++ news) → Out tl r → Q r { s with heap := h', toks := tk' }) :
    wpAny (model Challenge.rw_or0026_01.row.prog w) (ktrTop dp un gd cn cs L a ccd cl outer) (call (.ref f) vs) Q E s := C dp un gd cn cs a ccd cl outer A₀ base h₀ L m mean mg mb s Q E B F X N T hk hd hu ret
/-- the text of a list of codes -/
def mkS (l : List Nat) : Str := ⟨l.toArray⟩
theorem cps_mkS (l : List Nat) : (mkS l).cps.toList = l := rfl
theorem mkS_cps (x : Str) : mkS x.cps.toList = x := rfl
theorem length_mkS (l : List Nat) : (mkS l).length = l.length := by simp [mkS, Str.length]
def OutI (z : Int) : Led → Value → Prop := fun tl r => tl = [] ∧ ∃ t, r = .int z t
def OutS (l : List Nat) : Led → Value → Prop := fun tl r => tl = [] ∧ ∃ t, r = .str (mkS l) t
def OutB (b : Bool) : Led → Value → Prop := fun tl r => tl = [] ∧ r = .bool b
abbrev tupObj (vs : List Value) : Obj := { cls := .type "tuple", data := .seq vs.toArray }
def OutP (l : List Nat) (b : Bool) : Led → Value → Prop := fun tl r => ∃ a t, tl = [(a, tupObj [.str (mkS l) t, .bool b])] ∧ r = .ref a
section
variable {h₀ h' : Heap} {L : Addr} {m : Str → Option Value} {news news' : Led} {s : Shared} {Q : Value → Shared → Prop} {tk' : Nat} {t : Tok}
theorem endI {z z' : Int} (hret : ∀ r tl h' tk', Fr h₀ L h' m → News h₀ L h' (tl ++ news) → OutI z tl r → Q r { s with heap := h', toks := tk' }) (F : Fr h₀ L h' m) (N : News h₀ L h' news') (hs : ∀ p ∈ news, p ∈ news') (e : z' = z) :
    Q (.int z' t) { s with heap := h', toks := tk' } := hret _ [] _ _ F (fun p hp => N p (hs p hp)) ⟨rfl, t, by rw [e]⟩
theorem endS {y : Str} {l : List Nat} (hret : ∀ r tl h' tk', Fr h₀ L h' m → News h₀ L h' (tl ++ news) → OutS l tl r → Q r { s with heap := h', toks := tk' }) (F : Fr h₀ L h' m) (N : News h₀ L h' news') (hs : ∀ p ∈ news, p ∈ news') (e : y = mkS l) :
    Q (.str y t) { s with heap := h', toks := tk' } := hret _ [] _ _ F (fun p hp => N p (hs p hp)) ⟨rfl, t, by rw [e]⟩
theorem endB {b b' : Bool} (hret : ∀ r tl h' tk', Fr h₀ L h' m → News h₀ L h' (tl ++ news) → OutB b tl r → Q r { s with heap := h', toks := tk' }) (F : Fr h₀ L h' m) (N : News h₀ L h' news') (hs : ∀ p ∈ news, p ∈ news') (e : b' = b) :
    Q (.bool b') { s with heap := h', toks := tk' } := hret _ [] _ _ F (fun p hp => N p (hs p hp)) ⟨rfl, by rw [e]⟩
theorem endP {l l' : List Nat} {b b' : Bool} {q : Addr} (hret : ∀ r tl h' tk', Fr h₀ L h' m → News h₀ L h' (tl ++ news) → OutP l b tl r → Q r { s with heap := h', toks := tk' }) (F : Fr h₀ L h' m) (N : News h₀ L h' news') (hs : ∀ p ∈ news, p ∈ news')
    (hm : (q, tupObj [.str (mkS l') t, .bool b']) ∈ news') (e : (l', b') = (l, b)) :
    Q (.ref q) { s with heap := h', toks := tk' } := by
  cases e
  refine hret _ [_] _ _ F (fun p hp => ?_) ⟨q, t, rfl, rfl⟩
  rcases List.mem_cons.mp hp with rfl | hp
  · exact N _ hm
  · exact N p (hs p hp)
end
theorem Says.useI {w : World} {f : Addr} {n : Nat} {vs : List Value} {news : Led} {z : Int} (C : Says w f n vs news (OutI z))
    {dp un : Nat} {gd : Option (List Code)} {cn : Str} {cs : Scope} {a : Addr} {ccd : Value} {cl : List (Str × Addr)} {outer : List Env} {A₀ : Around} {base h₀ : Heap} {L : Addr} {m : Str → Option Value} {mean : ExcName → Option Value} {mg mb : Str → Option Value} {s : Shared} {Q E : Value → Shared → Prop}
    (B : Below A₀ base outer h₀) (F : Fr h₀ L s.heap m) (X : (hd.heap_39 w.params).In h₀) (N : News h₀ L s.heap news) (T : Top hd.view_39 (looseW hd.view_39 []) mean mg mb h₀) (hk : cs.kind = .function)
    (hd : dp + n < recursionLimit) (hu : un + 8 * n < cLine)
    (ret : ∀ t h' tk', Fr h₀ L h' m → News h₀ L h' news → Q (.int z t) { s with heap := h', toks := tk' }) :
    wpAny (model Challenge.rw_or0026_01.row.prog w) (ktrTop dp un gd cn cs L a ccd cl outer) (call (.ref f) vs) Q E s := C.use B F X N T hk hd hu (by rintro _ _ h' tk' F N ⟨rfl, t, rfl⟩; exact ret t h' tk' F N)
theorem Says.useS {w : World} {f : Addr} {n : Nat} {vs : List Value} {news : Led} {z : List Nat} (C : Says w f n vs news (OutS z))
    {dp un : Nat} {gd : Option (List Code)} {cn : Str} {cs : Scope} {a : Addr} {ccd : Value} {cl : List (Str × Addr)} {outer : List Env} {A₀ : Around} {base h₀ : Heap} {L : Addr} {m : Str → Option Value} {mean : ExcName → Option Value} {mg mb : Str → Option Value} {s : Shared} {Q E : Value → Shared → Prop}
    (B : Below A₀ base outer h₀) (F : Fr h₀ L s.heap m) (X : (hd.heap_39 w.params).In h₀) (N : News h₀ L s.heap news) (T : Top hd.view_39 (looseW hd.view_39 []) mean mg mb h₀) (hk : cs.kind = .function)
    (hd : dp + n < recursionLimit) (hu : un + 8 * n < cLine)
    (ret : ∀ t h' tk', Fr h₀ L h' m → News h₀ L h' news → Q (.str (mkS z) t) { s with heap := h', toks := tk' }) :
    wpAny (model Challenge.rw_or0026_01.row.prog w) (ktrTop dp un gd cn cs L a ccd cl outer) (call (.ref f) vs) Q E s := C.use B F X N T hk hd hu (by rintro _ _ h' tk' F N ⟨rfl, t, rfl⟩; exact ret t h' tk' F N)
theorem Says.useB {w : World} {f : Addr} {n : Nat} {vs : List Value} {news : Led} {z : Bool} (C : Says w f n vs news (OutB z))
    {dp un : Nat} {gd : Option (List Code)} {cn : Str} {cs : Scope} {a : Addr} {ccd : Value} {cl : List (Str × Addr)} {outer : List Env} {A₀ : Around} {base h₀ : Heap} {L : Addr} {m : Str → Option Value} {mean : ExcName → Option Value} {mg mb : Str → Option Value} {s : Shared} {Q E : Value → Shared → Prop}
    (B : Below A₀ base outer h₀) (F : Fr h₀ L s.heap m) (X : (hd.heap_39 w.params).In h₀) (N : News h₀ L s.heap news) (T : Top hd.view_39 (looseW hd.view_39 []) mean mg mb h₀) (hk : cs.kind = .function)
    (hd : dp + n < recursionLimit) (hu : un + 8 * n < cLine)
    (ret : ∀ (_ : Unit) h' tk', Fr h₀ L h' m → News h₀ L h' news → Q (.bool z) { s with heap := h', toks := tk' }) :
    wpAny (model Challenge.rw_or0026_01.row.prog w) (ktrTop dp un gd cn cs L a ccd cl outer) (call (.ref f) vs) Q E s := C.use B F X N T hk hd hu (by rintro _ _ h' tk' F N ⟨rfl, rfl⟩; exact ret () h' tk' F N)
theorem Says.useP {w : World} {f : Addr} {n : Nat} {vs : List Value} {news : Led} {z : List Nat × Bool} (C : Says w f n vs news (OutP z.1 z.2))
    {dp un : Nat} {gd : Option (List Code)} {cn : Str} {cs : Scope} {a : Addr} {ccd : Value} {cl : List (Str × Addr)} {outer : List Env} {A₀ : Around} {base h₀ : Heap} {L : Addr} {m : Str → Option Value} {mean : ExcName → Option Value} {mg mb : Str → Option Value} {s : Shared} {Q E : Value → Shared → Prop}
    (B : Below A₀ base outer h₀) (F : Fr h₀ L s.heap m) (X : (hd.heap_39 w.params).In h₀) (N : News h₀ L s.heap news) (T : Top hd.view_39 (looseW hd.view_39 []) mean mg mb h₀) (hk : cs.kind = .function)
    (hd : dp + n < recursionLimit) (hu : un + 8 * n < cLine)
    (ret : ∀ q t h' tk', Fr h₀ L h' m → News h₀ L h' ((q, tupObj [.str (mkS z.1) t, .bool z.2]) :: news) → Q (.ref q) { s with heap := h', toks := tk' }) :
    wpAny (model Challenge.rw_or0026_01.row.prog w) (ktrTop dp un gd cn cs L a ccd cl outer) (call (.ref f) vs) Q E s := C.use B F X N T hk hd hu (by rintro _ _ h' tk' F N ⟨q, t, rfl, rfl⟩; exact ret q t h' tk' F N)
theorem Says.useN {w : World} {f : Addr} {n : Nat} {vs : List Value} {news : Led} {z b : Nat} (C : Says w f n vs news (OutI (z : Nat))) (hb : z ≤ b)
    {dp un : Nat} {gd : Option (List Code)} {cn : Str} {cs : Scope} {a : Addr} {ccd : Value} {cl : List (Str × Addr)} {outer : List Env} {A₀ : Around} {base h₀ : Heap} {L : Addr} {m : Str → Option Value} {mean : ExcName → Option Value} {mg mb : Str → Option Value} {s : Shared} {Q E : Value → Shared → Prop}
    (B : Below A₀ base outer h₀) (F : Fr h₀ L s.heap m) (X : (hd.heap_39 w.params).In h₀) (N : News h₀ L s.heap news) (T : Top hd.view_39 (looseW hd.view_39 []) mean mg mb h₀) (hk : cs.kind = .function)
    (hd : dp + n < recursionLimit) (hu : un + 8 * n < cLine)
    (ret : ∀ (z' : Nat) t h' tk', z' = z → z' ≤ b → Fr h₀ L h' m → News h₀ L h' news → Q (.int (z' : Nat) t) { s with heap := h', toks := tk' }) :
    wpAny (model Challenge.rw_or0026_01.row.prog w) (ktrTop dp un gd cn cs L a ccd cl outer) (call (.ref f) vs) Q E s := C.use B F X N T hk hd hu (by rintro _ _ h' tk' F N ⟨rfl, t, rfl⟩; exact ret z t h' tk' rfl hb F N)
end Mine
end
section
open PySem PySem.W PySem.Calls PyProof.Rows
set_option Elab.async false
namespace Mine
open LCg
section
variable {prog : Program} {w : World} {A : Around} {E : Value → Shared → Prop} {s : Shared} {h₀ : Heap} {L : Addr} {m : Str → Option Value} {env : Env}
/-- a text as the source of a comprehension -/
def TextSrc (prog : Program) (w : World) (A : Around) (h₀ : Heap) (L : Addr) (m : Str → Option Value) (env : Env) (elt : Expr) (x : Str) (scope : Scope) (cl : List (Str × Addr)) (Q : Value → Shared → Prop) (xv : Value) (s₁ : Shared) : Prop :=
  ∃ xt tx news, xv = .str xt tx ∧ A.handled = none ∧ Fr h₀ L s₁.heap m ∧ News h₀ L s₁.heap news ∧ xt.cps.all (· < 128) = true ∧ xt.cps.size ≤ sizeLine ∧
    ∀ s₂ : Shared, (∃ h, s₂ = { s₁ with heap := h }) → CompRest prog w A h₀ L m env elt x scope cl s₂ (fun _ => True) (SignAt xt) (FinE h₀ L m s₂ Q) xt.cps.size 0 [] news
theorem ListComp_text {elt iter : Expr} {x : Str} {px : Pos} {scope : Scope} {cl : List (Str × Addr)} {pos : Pos} {Q : Value → Shared → Prop} (F₀ : Fr h₀ L s.heap m)
    (hclos : closureFor scope env = pure cl) (hcell : ∀ y ∈ scope.names, y.2 ≠ .cell) (hkind : scope.kind = .function)
    (hnames : ∀ y ∈ scope.names, y.2 = .local → scope.names.lookup y.1 = some .local) (hx : scope.names.lookup x = some .local)
    (h : wpAny (model prog w) A (eval iter env) (TextSrc prog w A h₀ L m env elt x scope cl Q) E s)
    (hs : ∀ x, foldedSetIterable iter env x = pure x := by intro _; rfl) :
    wpAny (model prog w) A (eval (.ListComp elt [⟨.Name x px, iter, [], 0⟩] scope pos) env) Q E s := by
  rw [eval_ListComp]
  refine wpAny_comprehension_free (use := none) rfl hs hclos hkind hnames (wpAny_mono h (fun xv s₁ h₁ => ?_) fun _ _ e => e)
  obtain ⟨xt, tx, news, rfl, hh, F, N, ha, hsz, R⟩ := h₁
  refine wpAny_pyIter_ascii ha ?_
  have W := Walks.strAscii (prog := prog) (w := w) (A := A) hh s₁.heap.objs.size xt tx
  refine block_U W hsz (fun i h st => by obtain ⟨o, e, _⟩ := st; exact ⟨o, e⟩) (fun i h h' o nw st e e' _ _ _ => W.frame i h h' st (fun b hb o₂ e₂ => ?_)) hcell hkind hx ?_ (fun b hb => ?_)
    (F.keeps fun _ _ e => Heap.get?_push_of_some _ e) (N.grown fun _ _ e => Heap.get?_push_of_some _ e) (Nat.ne_of_lt F.ns.lt) (next_is_new F) (fun p hp => Nat.ne_of_lt (Heap.lt_size (N p hp).1)) trivial (R _ ⟨_, rfl⟩) ?_
  · rw [List.mem_singleton.mp hb] at e₂ ⊢
    rw [e] at e₂
    cases e₂
    exact e'
  · exact ⟨_, Heap.get?_push_size _ rfl, rfl, rfl⟩
  · rw [List.mem_singleton.mp hb]
    show s₁.heap.objs.size < (s₁.heap.push _).objs.size
    rw [Heap.size_push]; exact Nat.lt_succ_self _
  · intro D C h tk m' ys news' F' N' o1 hn hC₀ hD₀ hCL hDL hCD offC fin
    refine ⟨m', hn, fun h'' hs'' => fin D h'' tk (F'.change hs'' hCL hC₀) (fun p hp => ?_) o1⟩
    refine ⟨hs''.extBut _ _ ?_ (N' p hp).1, (N' p hp).2⟩
    rcases List.mem_cons.mp hp with rfl | hp
    · exact Ne.symm hCD
    · exact offC p hp
theorem strs_snoc {y : Str} {t : Tok} : ∀ {vs : List Value} {ys : List Str}, StrsAre vs ys → StrsAre (vs ++ [.str y t]) (ys ++ [y])
  | _, _, .nil => .cons y t .nil
  | _, _, .cons z u r => .cons z u (strs_snoc r)
/-- every sign's element is one text -/
theorem text_rest {elt : Expr} {x : Str} {scope : Scope} {cl : List (Str × Addr)} {Fin : List Value → List (Addr × Obj) → Prop} {news : List (Addr × Obj)} {xt : Str} (G : Nat → Str)
    (turn : ∀ c t I oI C oC D m₂ ys h tk (E' : Value → Shared → Prop), c ∈ xt.cps.toList → NsObj oC m₂ → m₂ x = some (.str ⟨#[c]⟩ t) → Fr h₀ L h m → News h₀ L h ((I, oI) :: (C, oC) :: (D, lst ys) :: news) → Off3 I C D news → ((@Ne Nat I C) ∧ (@Ne Nat I D) ∧ (@Ne Nat C D)) →
      wpAny (model prog w) A (eval elt (compEnvC scope cl C env)) (CompEnd h₀ L m { s with heap := h, toks := tk } I oI C oC D (lst ys) (fun _ => True) (fun y news' => KCtEl news (G c) y news')) E' { s with heap := h, toks := tk })
    (fin : ∀ ys, StrsAre ys (xt.cps.toList.map G) → Fin ys news) : CompRest prog w A h₀ L m env elt x scope cl s (fun _ => True) (SignAt xt) Fin xt.cps.size 0 [] news := by
  have key : ∀ (j i : Nat) (ys : List Value), i + j = xt.cps.size → StrsAre ys ((xt.cps.toList.take i).map G) → CompRest prog w A h₀ L m env elt x scope cl s (fun _ => True) (SignAt xt) Fin j i ys news := by
    intro j
    induction j with
    | zero =>
      intro i ys hi hy
      have e : xt.cps.toList.take i = xt.cps.toList := List.take_of_length_le (by simp; omega)
      rw [e] at hy
      exact CompRest.zero (fin ys hy)
    | succ j ih =>
      intro i ys hi hy
      refine CompRest.succ ?_
      intro v I oI C oC D m₂ h tk E' hv hC hx F N off ne
      obtain ⟨c, u, hc, rfl⟩ := hv
      have hc' : xt.cps.toList[i]? = some c := by simpa using hc
      refine wpAny_mono (turn c u I oI C oC D m₂ ys h tk E' (List.mem_of_getElem? hc') hC hx F N off ne) (fun y s₂ hq => ?_) fun _ _ e => e
      obtain ⟨h', tk', nw, e, F', N', off', hS, hn, t', hy'⟩ := hq
      rw [hn] at N' off'
      refine ⟨h', tk', news, e, F', N', off', trivial, ?_⟩
      rw [hy']
      refine ih (i + 1) _ (by omega) ?_
      rw [List.take_add_one, hc']
      simpa using strs_snoc hy
  exact key _ 0 [] (by omega) (by simp only [List.take_zero, List.map_nil]; exact .nil)
theorem strsAt {vs : List Value} {ys : List Str} (h : StrsAre vs ys) : ∀ {i : Nat} {v : Value}, vs[i]? = some v → ∃ y t, v = .str y t ∧ ys[i]? = some y := by
  induction h with
  | nil => intro i v h; simp at h
  | cons y t _ ih =>
    intro i v hv
    cases i with
    | zero => simp at hv; exact ⟨y, t, hv.symm, rfl⟩
    | succ i => simpa using ih (by simpa using hv)
/-- of a list of texts those are kept that pass a test -/
theorem strs_rest {ct elt : Expr} {x : Str} {scope : Scope} {cl : List (Str × Addr)} {S : List (Addr × Obj) → Prop} {Fin : List Value → List (Addr × Obj) → Prop} {news : List (Addr × Obj)} {its : List Value} {ws : List Str} (hi : StrsAre its ws) (keep : Str → Bool)
    (turn : ∀ y t I oI C oC D m₂ ys h tk (E' : Value → Shared → Prop), y ∈ ws → NsObj oC m₂ → m₂ x = some (.str y t) → Fr h₀ L h m → News h₀ L h ((I, oI) :: (C, oC) :: (D, lst ys) :: news) → Off3 I C D news → ((@Ne Nat I C) ∧ (@Ne Nat I D) ∧ (@Ne Nat C D)) →
      wpAny (model prog w) A (isTrue ct (compEnvC scope cl C env) (eval ct (compEnvC scope cl C env))) (fun ok s' => if ok = true then
        wpAny (model prog w) A (eval elt (compEnvC scope cl C env)) (CompEnd h₀ L m { s with heap := h, toks := tk } I oI C oC D (lst ys) S (fun v news' => keep y = true ∧ news' = news ∧ ∃ t', v = .str y t')) E' s'
        else CompEnd h₀ L m { s with heap := h, toks := tk } I oI C oC D (lst ys) S (fun _ news' => keep y = false ∧ news' = news) Value.none s') E' { s with heap := h, toks := tk })
    (fin : ∀ ys, StrsAre ys (ws.filter keep) → Fin ys news) : LCt.CompRestT prog w A h₀ L m env ct elt x scope cl s S (fun i v => its.toArray[i]? = some v) Fin its.toArray.size 0 [] news := by
  have hlen : its.length = ws.length := by
    clear turn fin
    induction hi with
    | nil => rfl
    | cons _ _ _ ih => simp [ih]
  have key : ∀ (j i : Nat) (ys : List Value), i + j = its.toArray.size → StrsAre ys ((ws.take i).filter keep) → LCt.CompRestT prog w A h₀ L m env ct elt x scope cl s S (fun i v => its.toArray[i]? = some v) Fin j i ys news := by
    intro j
    induction j with
    | zero =>
      intro i ys hij hy
      have e : ws.take i = ws := List.take_of_length_le (by simp at hij; omega)
      rw [e] at hy
      exact LCt.CompRestT.zero (fin ys hy)
    | succ j ih =>
      intro i ys hij hy
      refine LCt.CompRestT.succ ?_
      intro v I oI C oC D m₂ h tk E' hv hC hx F N off ne
      obtain ⟨y, t, rfl, hwi⟩ := strsAt hi (by simpa using hv)
      refine wpAny_mono (turn y t I oI C oC D m₂ ys h tk E' (List.mem_of_getElem? hwi) hC hx F N off ne) (fun ok s₂ hq => ?_) fun _ _ e => e
      cases ok with
      | true =>
        simp only [if_true] at hq ⊢
        refine wpAny_mono hq (fun v s₃ h₃ => ?_) fun _ _ e => e
        obtain ⟨h', tk', nw, e, F', N', off', hS, hkp, hn, t', hy'⟩ := h₃
        subst hn
        refine ⟨h', tk', nw, e, F', N', off', hS, ?_⟩
        rw [hy']
        refine ih (i + 1) _ (by omega) ?_
        rw [List.take_add_one, hwi, List.filter_append]
        simpa [hkp] using strs_snoc hy
      | false =>
        simp only [Bool.false_eq_true, if_false] at hq ⊢
        obtain ⟨h', tk', nw, e, F', N', off', hS, hkp, hn⟩ := hq
        subst hn
        refine ⟨h', tk', nw, e, F', N', off', hS, ?_⟩
        refine ih (i + 1) _ (by omega) ?_
        rw [List.take_add_one, hwi, List.filter_append]
        simpa [hkp] using hy
  exact key _ 0 [] (by omega) (by simp only [List.take_zero, List.filter_nil]; exact .nil)
end
end Mine
end
section
open PySem PySem.W PySem.Calls PyProof.Rows
set_option Elab.async false
namespace Mine
def SeqS {σ : Type} (news : Led) (ps : σ → List (Str × Value)) (x : Str) (stored : List Str) (m₀ : Str → Option Value) (P : σ → Prop) (m : Str → Option Value) (nx : Led) : Prop :=
  ∃ c : σ, nx = news ∧ (∀ p ∈ ps c, m p.1 = some p.2) ∧ (∀ z, z ≠ x → (∀ p ∈ ps c, z ≠ p.1) → stored.contains z = false → m z = m₀ z) ∧ P c
section
variable {prog : Program} {w : World} {A : Around} {E : Value → Shared → Prop} {s : Shared} {env : Env} {h₀ : Heap} {x : Str} {body : List Stmt} {Q : Flow → Shared → Prop}
theorem seq_core {σ : Type} {I ax : Addr} {St : Nat → Heap → Prop} {items : List Value} {news : Led} {m₀ : Str → Option Value} (ps : σ → List (Str × Value)) (stored : List Str) (P : Nat → σ → Prop) (c₀ : σ)
    (W : Walks prog w A I [I, ax] [I] items.length (fun i v => items[i]? = some v) St) (hLI : env.locals ≠ I) (hLa : env.locals ≠ ax) (hI : h₀.get? I = none) (hst : St 0 s.heap)
    (F : Fr h₀ env.locals s.heap m₀) (N : News h₀ env.locals s.heap news) (off : ∀ p ∈ news, p.1 ≠ I ∧ p.1 ≠ ax) (hk : ∀ p ∈ ps c₀, m₀ p.1 = some p.2) (hp : P 0 c₀)
    (turn : ∀ (c : σ) (i : Nat) v (u : Str → Option Value) h tk own, items[i]? = some v → P i c →
      Fr h₀ env.locals h (fun y => if y = x then some v else kstB (fun z => if stored.contains z then u z else m₀ z) (ps c) y) → News h₀ env.locals h (news ++ own) →
      wpAny (model prog w) A (execs body env) (InvPostN h₀ env.locals (SeqS news ps x stored m₀ (P (i + 1))) own (news.map (·.1)) { s with heap := h, toks := tk } Q) E { s with heap := h, toks := tk })
    (done : ∀ (c : σ) (u : Str → Option Value) h tk, P items.length c → Fr h₀ env.locals h (fun y => if y = x then u y else kstB (fun z => if stored.contains z then u z else m₀ z) (ps c) y) → News h₀ env.locals h news → Q .next { s with heap := h, toks := tk }) :
    LoopAtV prog w A h₀ env x body Q E (.ref I) s := by
  refine loop_invN (fun i m nx => SeqS news ps x stored m₀ (P i) m nx) W ?_ ?_ ?_ ?_ hst F N ⟨c₀, rfl, hk, fun _ _ _ _ => rfl, hp⟩ ?_ ?_
  · intro hm
    rcases List.mem_cons.mp hm with e | hm
    · exact hLI e
    · exact hLa (List.mem_singleton.mp hm)
  · intro b hb
    rw [List.mem_singleton.mp hb]; exact hI
  · intro p hp hI
    exact (off p hp).1 (List.mem_singleton.mp hI)
  · intro p hp hI
    rcases List.mem_cons.mp hI with e | e
    · exact (off p hp).1 e
    · exact (off p hp).2 (List.mem_singleton.mp e)
  · rintro i v m₁ nx h tk own _ hv _ _ ⟨c, rfl, h1, h2, hp'⟩ F₁ N₁
    exact turn c i v m₁ h tk own hv hp' (kst_fr h1 h2 F₁) N₁
  · rintro m₁ nx h tk ⟨c, rfl, h1, h2, hp'⟩ F₁ N₁
    exact done c m₁ h tk hp' (kst_frOut h1 h2 F₁) N₁
theorem seq_tuple {σ : Type} {ax : Addr} {items : List Value} {news : Led} {m₀ : Str → Option Value} (ps : σ → List (Str × Value)) (stored : List Str) (P : Nat → σ → Prop) (c₀ : σ)
    (hh : A.handled = none) (ht : h₀.IsTuple ax items.toArray)
    (F : Fr h₀ env.locals s.heap m₀) (N : News h₀ env.locals s.heap news) (hk : ∀ p ∈ ps c₀, m₀ p.1 = some p.2) (hp : P 0 c₀)
    (turn : ∀ (c : σ) (i : Nat) v (u : Str → Option Value) h tk own, items[i]? = some v → P i c →
      Fr h₀ env.locals h (fun y => if y = x then some v else kstB (fun z => if stored.contains z then u z else m₀ z) (ps c) y) → News h₀ env.locals h (news ++ own) →
      wpAny (model prog w) A (execs body env) (InvPostN h₀ env.locals (SeqS news ps x stored m₀ (P (i + 1))) own (news.map (·.1)) { s with heap := h, toks := tk } Q) E { s with heap := h, toks := tk })
    (done : ∀ (c : σ) (u : Str → Option Value) h tk, P items.length c → Fr h₀ env.locals h (fun y => if y = x then u y else kstB (fun z => if stored.contains z then u z else m₀ z) (ps c) y) → News h₀ env.locals h news → Q .next { s with heap := h, toks := tk }) :
    wpAny (model prog w) A (pyIter (.ref ax)) (fun it s₂ => LoopAtV prog w A h₀ env x body Q E it s₂) E s := by
  have hts : s.heap.IsTuple ax items.toArray := by obtain ⟨o, ho, r⟩ := ht; exact ⟨o, F.keep _ _ ho, r⟩
  obtain ⟨oa, hoa, _⟩ := id ht
  have hlt : ax < h₀.objs.size := Heap.lt_size hoa
  have hne : ax ≠ s.heap.objs.size := Nat.ne_of_lt (Nat.lt_trans (Nat.lt_of_lt_of_le hlt F.above) F.ns.lt)
  refine wpAny_pyIter_tuple hts ?_
  have W := Walks.tuple (prog := prog) (w := w) hh s.heap.objs.size ax hne items.toArray
  have hlen : items.toArray.size = items.length := by simp
  rw [hlen] at W
  have W' : Walks prog w A s.heap.objs.size [s.heap.objs.size, ax] [s.heap.objs.size] items.length (fun i v => items[i]? = some v) (fun i h => h.IsTupleIter s.heap.objs.size ax i ∧ h.IsTuple ax items.toArray) := by
    have e : (fun (i : Nat) (v : Value) => items.toArray[i]? = some v) = fun i v => items[i]? = some v := by funext i v; simp
    rw [e] at W; exact W
  have up : ∀ (o' : Obj) b o, s.heap.get? b = some o → (s.heap.push o').get? b = some o := fun o' b o e => Heap.get?_push_of_some _ e
  refine seq_core (s := { s with heap := s.heap.push _ }) ps stored P c₀ W' (fun e => absurd F.ns.lt (e ▸ Nat.lt_irrefl _)) (fun e => absurd (Nat.lt_of_lt_of_le hlt F.above) (e ▸ Nat.lt_irrefl _)) (next_is_new F)
    ⟨⟨_, Heap.get?_push_size _ rfl, rfl, rfl⟩, by obtain ⟨o, ho, r⟩ := hts; exact ⟨o, up _ _ _ ho, r⟩⟩ (F.push _) (fun p hp => ⟨up _ _ _ (N p hp).1, (N p hp).2⟩) (fun p hp => ⟨fun e => absurd (Heap.lt_size (N p hp).1) (e ▸ Nat.lt_irrefl _), fun e => by have := (N p hp).2.2; rw [e, hoa] at this; cases this⟩) hk hp turn done
theorem seq_list {σ : Type} {ax : Addr} {k : Nat} {items : List Value} {news : Led} {m₀ : Str → Option Value} (ps : σ → List (Str × Value)) (stored : List Str) (P : Nat → σ → Prop) (c₀ : σ)
    (hh : A.handled = none) (F : Fr h₀ env.locals s.heap m₀) (N₁ : News h₀ env.locals s.heap ((ax, ({ cls := .type "list", data := .seq items.toArray k } : Obj)) :: news)) (hlt : ∀ p ∈ news, p.1 < ax) (hk : ∀ p ∈ ps c₀, m₀ p.1 = some p.2) (hp : P 0 c₀)
    (turn : ∀ (c : σ) (i : Nat) v (u : Str → Option Value) h tk own, items[i]? = some v → P i c →
      Fr h₀ env.locals h (fun y => if y = x then some v else kstB (fun z => if stored.contains z then u z else m₀ z) (ps c) y) → News h₀ env.locals h (news ++ own) →
      wpAny (model prog w) A (execs body env) (InvPostN h₀ env.locals (SeqS news ps x stored m₀ (P (i + 1))) own (news.map (·.1)) { s with heap := h, toks := tk } Q) E { s with heap := h, toks := tk })
    (done : ∀ (c : σ) (u : Str → Option Value) h tk, P items.length c → Fr h₀ env.locals h (fun y => if y = x then u y else kstB (fun z => if stored.contains z then u z else m₀ z) (ps c) y) → News h₀ env.locals h news → Q .next { s with heap := h, toks := tk }) :
    wpAny (model prog w) A (pyIter (.ref ax)) (fun it s₂ => LoopAtV prog w A h₀ env x body Q E it s₂) E s := by
  have N : News h₀ env.locals s.heap news := fun p hp => N₁ p (List.mem_cons_of_mem _ hp)
  have hax := N₁ _ (List.mem_cons_self ..)
  have hls : s.heap.IsList ax items.toArray := ⟨_, hax.1, rfl, k, rfl⟩
  have hl2 : ax < s.heap.objs.size := Heap.lt_size hax.1
  have hne : ax ≠ s.heap.objs.size := Nat.ne_of_lt hl2
  refine wpAny_pyIter_list hls ?_
  have W := Walks.list (prog := prog) (w := w) hh s.heap.objs.size ax hne items.toArray
  have hlen : items.toArray.size = items.length := by simp
  rw [hlen] at W
  have W' : Walks prog w A s.heap.objs.size [s.heap.objs.size, ax] [s.heap.objs.size] items.length (fun i v => items[i]? = some v) (fun i h => h.IsListIter s.heap.objs.size ax i ∧ h.IsList ax items.toArray) := by
    have e : (fun (i : Nat) (v : Value) => items.toArray[i]? = some v) = fun i v => items[i]? = some v := by funext i v; simp
    rw [e] at W; exact W
  have up : ∀ (o' : Obj) b o, s.heap.get? b = some o → (s.heap.push o').get? b = some o := fun o' b o e => Heap.get?_push_of_some _ e
  refine seq_core (s := { s with heap := s.heap.push _ }) ps stored P c₀ W' (fun e => absurd F.ns.lt (e ▸ Nat.lt_irrefl _)) (fun e => hax.2.1 e.symm) (next_is_new F)
    ⟨⟨_, Heap.get?_push_size _ rfl, rfl, rfl⟩, by obtain ⟨o, ho, r⟩ := hls; exact ⟨o, up _ _ _ ho, r⟩⟩ (F.push _) (fun p hp => ⟨up _ _ _ (N p hp).1, (N p hp).2⟩) (fun p hp => ⟨fun e => absurd (Heap.lt_size (N p hp).1) (e ▸ Nat.lt_irrefl _), fun e => absurd (hlt p hp) (e ▸ Nat.lt_irrefl _)⟩) hk hp turn done
theorem seq_end {σ : Type} {news : Led} {ps : σ → List (Str × Value)} {stored : List Str} {m₀ : Str → Option Value} {P : σ → Prop} (c : σ) {L : Addr} {m' : Str → Option Value} {own news' : Led} {s₁ : Shared} {h' : Heap} {tk : Nat}
    (F : Fr h₀ L h' m') (N : News h₀ L h' news') (hn : ∀ p ∈ news, p ∈ news') (ho : ∀ p ∈ own, p ∈ news') (hk : ∀ p ∈ ps c, m' p.1 = some p.2) (hr : ∀ z, z ≠ x → (∀ p ∈ ps c, z ≠ p.1) → stored.contains z = false → m' z = m₀ z) (hp : P c) :
    InvEndN h₀ L (SeqS news ps x stored m₀ P) own (news.map (·.1)) s₁ { s₁ with heap := h', toks := tk } := InvEndN.intro F N ⟨c, rfl, hk, hr, hp⟩ rfl hn ho
end
end Mine
end
section
/-! the plain law: texts are lists of codes; no program in sight -/
namespace Mine
def blanks : List Nat → Nat
  | [] => 0
  | c :: r => if c = 32 then blanks r + 1 else 0
/-- the codes ahead of the first bracket, if that is a closing one -/
def inner : List Nat → Option Nat
  | [] => none
  | c :: r => if c = 93 then some 0 else if c = 91 then none else (inner r).map (· + 1)
/-- the length of the blob at the begin, with the blanks behind it; 0: none -/
def blob : List Nat → Nat
  | [] => 0
  | c :: r => if c = 91 then (match inner r with | some k => k + 2 + blanks (r.drop (k + 1)) | none => 0) else 0
theorem blanks_le (l : List Nat) : blanks l ≤ l.length := by
  induction l with
  | nil => exact Nat.le_refl _
  | cons c r ih => simp only [blanks]; split <;> simp only [List.length_cons] <;> omega
theorem blanks_yes {l : List Nat} {k : Nat} (h : (l.drop k).take 1 = [32]) : k < l.length ∧ blanks (l.drop k) = blanks (l.drop (k + 1)) + 1 := by
  have hk : k < l.length := by
    apply Classical.byContradiction; intro hn
    rw [List.drop_of_length_le (by omega)] at h
    simp at h
  refine ⟨hk, ?_⟩
  rw [List.drop_eq_getElem_cons hk] at h ⊢
  simp only [List.take_succ_cons, List.take_zero, List.cons.injEq, and_true] at h
  simp [blanks, h]
theorem blanks_no {l : List Nat} {k : Nat} (h : (l.drop k).take 1 ≠ [32]) : blanks (l.drop k) = 0 := by
  cases hd : l.drop k with
  | nil => rfl
  | cons c r =>
    rw [hd] at h
    have : c ≠ 32 := by intro hc; subst hc; simp at h
    simp [blanks, this]
theorem inner_lt {l : List Nat} {k : Nat} (h : inner l = some k) : k < l.length := by
  induction l generalizing k with
  | nil => cases h
  | cons c r ih =>
    simp only [inner] at h
    split at h
    · cases h; simp
    · split at h
      · cases h
      · cases hi : inner r with
        | none => rw [hi] at h; cases h
        | some j => rw [hi] at h; cases h; have := ih hi; simp only [List.length_cons]; omega
theorem blob_le (l : List Nat) : blob l ≤ l.length := by
  cases l with
  | nil => exact Nat.le_refl _
  | cons c r =>
    simp only [blob]
    split
    · cases hi : inner r with
      | none => simp
      | some k =>
        have h1 := inner_lt hi
        have h2 := blanks_le (r.drop (k + 1))
        rw [List.length_drop] at h2
        simp only [List.length_cons]; omega
    · simp
theorem inner_of {r : List Nat} : ∀ {j : Nat}, r[j]? = some 93 → (∀ p, p < j → r[p]? ≠ some 93) → (∀ p, p < j → r[p]? ≠ some 91) → inner r = some j := by
  induction r with
  | nil => intro j h; simp at h
  | cons c r ih =>
    intro j h h1 h2
    cases j with
    | zero => simp at h; simp [inner, h]
    | succ j =>
      have c1 : c ≠ 93 := by have := h1 0 (by omega); simpa using this
      have c2 : c ≠ 91 := by have := h2 0 (by omega); simpa using this
      have := ih (j := j) (by simpa using h) (fun p hp => by have := h1 (p + 1) (by omega); simpa using this) (fun p hp => by have := h2 (p + 1) (by omega); simpa using this)
      simp [inner, c1, c2, this]
theorem inner_none1 {r : List Nat} (h : ∀ p : Nat, r[p]? ≠ some 93) : inner r = none := by
  induction r with
  | nil => rfl
  | cons c r ih =>
    have c1 : c ≠ 93 := by have := h 0; simpa using this
    have := ih fun p => by have := h (p + 1); simpa using this
    simp [inner, c1, this]
theorem inner_none2 {r : List Nat} : ∀ {p : Nat}, r[p]? = some 91 → (∀ q, q < p → r[q]? ≠ some 93) → inner r = none := by
  induction r with
  | nil => intro p h; simp at h
  | cons c r ih =>
    intro p h h1
    cases p with
    | zero => simp at h; simp [inner, h]
    | succ p =>
      have c1 : c ≠ 93 := by have := h1 0 (by omega); simpa using this
      have := ih (p := p) (by simpa using h) (fun q hq => by have := h1 (q + 1) (by omega); simpa using this)
      simp [inner, c1, this]
theorem blob_no {l : List Nat} {i : Nat} (h : (l.drop i).take 1 ≠ [91]) : blob (l.drop i) = 0 := by
  cases hd : l.drop i with
  | nil => rfl
  | cons c r =>
    rw [hd] at h
    have : c ≠ 91 := by intro hc; subst hc; simp at h
    simp [blob, this]
theorem drop_yes {l : List Nat} {i c : Nat} (h : (l.drop i).take 1 = [c]) : i < l.length ∧ l.drop i = c :: l.drop (i + 1) := by
  have hi : i < l.length := by
    apply Classical.byContradiction; intro hn
    rw [List.drop_of_length_le (by omega)] at h
    simp at h
  refine ⟨hi, ?_⟩
  rw [List.drop_eq_getElem_cons hi] at h ⊢
  simp only [List.take_succ_cons, List.take_zero, List.cons.injEq, and_true] at h
  rw [h]
theorem blob_none1 {l : List Nat} {i : Nat} (h0 : (l.drop i).take 1 = [91]) (h : ∀ p, i ≤ p → l[p]? ≠ some 93) : blob (l.drop i) = 0 := by
  rw [(drop_yes h0).2]
  have : inner (l.drop (i + 1)) = none := inner_none1 fun p => by rw [List.getElem?_drop]; exact h _ (by omega)
  simp [blob, this]
theorem blob_none2 {l : List Nat} {i k p : Nat} (h0 : (l.drop i).take 1 = [91]) (hn : ∀ q, i ≤ q → q < k → l[q]? ≠ some 93) (hip : i + 1 ≤ p) (hpk : p < k) (hp : l[p]? = some 91) : blob (l.drop i) = 0 := by
  rw [(drop_yes h0).2]
  have : inner (l.drop (i + 1)) = none := inner_none2 (p := p - (i + 1)) (by rw [List.getElem?_drop, ← hp]; congr 1; omega) fun q hq => by rw [List.getElem?_drop]; exact hn _ (by omega) (by omega)
  simp [blob, this]
theorem blob_some {l : List Nat} {i k : Nat} (h0 : (l.drop i).take 1 = [91]) (hik : i ≤ k) (hk : l[k]? = some 93) (hn : ∀ q, i ≤ q → q < k → l[q]? ≠ some 93) (hn2 : ∀ q, i + 1 ≤ q → q < k → l[q]? ≠ some 91) :
    i + blob (l.drop i) = k + 1 + blanks (l.drop (k + 1)) := by
  have hi := drop_yes h0
  have hne : i ≠ k := by
    intro he; subst he
    have : l[i]? = some 91 := by rw [show l[i]? = (l.drop i)[0]? by rw [List.getElem?_drop]; rfl, hi.2]; rfl
    rw [this] at hk; cases hk
  rw [hi.2]
  have : inner (l.drop (i + 1)) = some (k - (i + 1)) := inner_of (by rw [List.getElem?_drop, ← hk]; congr 1; omega)
    (fun q hq => by rw [List.getElem?_drop]; exact hn _ (by omega) (by omega)) (fun q hq => by rw [List.getElem?_drop]; exact hn2 _ (by omega) (by omega))
  simp only [blob, this, if_true, List.drop_drop]
  have e : i + 1 + (k - (i + 1) + 1) = k + 1 := by omega
  rw [e]; omega
def blobs (l : List Nat) : Nat := if 0 < blob l then blob l + blobs (l.drop (blob l)) else 0
termination_by l.length
decreasing_by
  have := blob_le l
  rw [List.length_drop]; omega
theorem blobs_pos {l : List Nat} (h : 0 < blob l) : blobs l = blob l + blobs (l.drop (blob l)) := by rw [blobs, if_pos h]
theorem blobs_zero {l : List Nat} (h : blob l = 0) : blobs l = 0 := by rw [blobs, if_neg (by omega)]
theorem blobs_le (l : List Nat) : blobs l ≤ l.length := by
  rw [blobs]
  split
  · have h1 := blob_le l
    have := blobs_le (l.drop (blob l))
    rw [List.length_drop] at this
    omega
  · omega
termination_by l.length
decreasing_by
  have := blob_le l
  rw [List.length_drop]; omega
def low (c : Nat) : Nat := if 65 ≤ c ∧ c ≤ 90 then c + 32 else c
/-- the length of the leader by the word w at the begin; 0: none -/
def word (w l : List Nat) : Nat :=
  if (l.take w.length).map low = w then
    (let b := w.length + blanks (l.drop w.length)
     let e := b + blob (l.drop b)
     if (l.drop e).take 1 = [58] then e + 1 else 0)
  else 0
def wRe : List Nat := [114, 101]
def wFwd : List Nat := [102, 119, 100]
def wFw : List Nat := [102, 119]
/-- the length of the leader at the begin, no blob ahead; 0: none -/
def lead (l : List Nat) : Nat := if 0 < word wRe l then word wRe l else if 0 < word wFwd l then word wFwd l else word wFw l
theorem word_no1 {wl L : List Nat} (h : ((L.take wl.length).map low == wl) = false) : word wl L = 0 := by
  unfold word
  rw [if_neg (ne_of_beq_false h)]
theorem word_yes {wl l : List Nat} {k z1 z2 : Nat} (h : (((l.drop k).take wl.length).map low == wl) = true) (h1 : z1 = k + wl.length + blanks (l.drop (k + wl.length))) (h2 : z2 = z1 + blob (l.drop z1))
    (hc : (l.drop z2).take 1 = [58]) : k + word wl (l.drop k) = z2 + 1 := by
  have hw := eq_of_beq h
  have e1 : k + (wl.length + blanks (l.drop (k + wl.length))) = z1 := by omega
  have e2 : k + (wl.length + blanks (l.drop (k + wl.length)) + blob (l.drop z1)) = z2 := by omega
  simp only [word, hw, if_true, List.drop_drop, e1, e2, hc]
  omega
theorem word_no2 {wl l : List Nat} {k z1 z2 : Nat} (h : (((l.drop k).take wl.length).map low == wl) = true) (h1 : z1 = k + wl.length + blanks (l.drop (k + wl.length))) (h2 : z2 = z1 + blob (l.drop z1))
    (hc : (l.drop z2).take 1 ≠ [58]) : word wl (l.drop k) = 0 := by
  have hw := eq_of_beq h
  have e1 : k + (wl.length + blanks (l.drop (k + wl.length))) = z1 := by omega
  have e2 : k + (wl.length + blanks (l.drop (k + wl.length)) + blob (l.drop z1)) = z2 := by omega
  simp only [word, hw, if_true, List.drop_drop, e1, e2, hc, if_false]
theorem lead_at {L wl : List Nat} {i : Nat} (hi : i < 3) (hP : ∀ j, j < i → word ([wRe, wFwd, wFw].getD j []) L = 0) (hw : [wRe, wFwd, wFw].getD i [] = wl) (hpos : 0 < word wl L) : lead L = word wl L := by
  unfold lead
  rcases i with _ | _ | _ | i
  · have : wl = wRe := hw.symm
    subst this; rw [if_pos hpos]
  · have : wl = wFwd := hw.symm
    subst this
    have h0 : word wRe L = 0 := hP 0 (by omega)
    rw [if_neg (by omega), if_pos hpos]
  · have : wl = wFw := hw.symm
    subst this
    have h0 : word wRe L = 0 := hP 0 (by omega)
    have h1 : word wFwd L = 0 := hP 1 (by omega)
    rw [if_neg (by omega), if_neg (by omega)]
  · omega
theorem lead_none {L : List Nat} (hP : ∀ j, j < 3 → word ([wRe, wFwd, wFw].getD j []) L = 0) : lead L = 0 := by
  have h0 : word wRe L = 0 := hP 0 (by omega)
  have h1 : word wFwd L = 0 := hP 1 (by omega)
  have h2 : word wFw L = 0 := hP 2 (by omega)
  simp [lead, h0, h1, h2]
theorem next_all {P : Nat → Prop} {i : Nat} (h : ∀ j, j < i → P j) (hi : P i) : ∀ j, j < i + 1 → P j := by
  intro j hj
  rcases Nat.lt_succ_iff_lt_or_eq.mp hj with h1 | h1
  · exact h j h1
  · exact h1 ▸ hi
theorem lead_nil : lead [] = 0 := by decide
theorem lead_pos {L : List Nat} (h : 0 < lead L) : 0 < L.length := by
  cases L with
  | nil => rw [lead_nil] at h; exact h
  | cons c r => simp
def wl (l : List Nat) (cut : Bool) : List Nat × Bool :=
  if 0 < lead ((l.drop (blanks l)).drop (blobs (l.drop (blanks l)))) then
    wl ((l.drop (blanks l)).drop (blobs (l.drop (blanks l)) + lead ((l.drop (blanks l)).drop (blobs (l.drop (blanks l)))))) true
  else if blob (l.drop (blanks l)) = 0 ∨ blob (l.drop (blanks l)) = (l.drop (blanks l)).length then (l.drop (blanks l), cut)
  else wl ((l.drop (blanks l)).drop (blob (l.drop (blanks l)))) cut
termination_by l.length
decreasing_by
  · rename_i h
    have h1 := lead_pos h
    simp only [List.length_drop] at h1 ⊢
    omega
  · rename_i h1 h2
    have h3 := blob_le (l.drop (blanks l))
    simp only [List.length_drop] at h2 h3 ⊢
    omega
/-- cut at each blank -/
def splitB : List Nat → List (List Nat)
  | [] => [[]]
  | c :: r => if c = 32 then [] :: splitB r else (match splitB r with | p :: ps => (c :: p) :: ps | [] => [[c]])
def joinB : List (List Nat) → List Nat
  | [] => []
  | [p] => p
  | p :: q :: r => p ++ 32 :: joinB (q :: r)
def wordsB (l : List Nat) : List (List Nat) := (splitB l).filter fun p => !p.isEmpty
/-- each run of blanks one blank, none at the ends -/
def sqz (l : List Nat) : List Nat := joinB (wordsB l)
theorem splitB_ne (l : List Nat) : splitB l ≠ [] := by
  cases l with
  | nil => simp [splitB]
  | cons c r =>
    simp only [splitB]
    split
    · simp
    · split <;> simp
theorem splitB_app {p : List Nat} (hp : 32 ∉ p) : ∀ r, splitB (p ++ 32 :: r) = p :: splitB r := by
  induction p with
  | nil => intro r; simp [splitB]
  | cons c p ih =>
    intro r
    have hc : c ≠ 32 := by intro h; subst h; simp at hp
    have := ih (by intro h; exact hp (List.mem_cons_of_mem _ h)) r
    simp [splitB, hc, this]
theorem splitB_free {p : List Nat} (hp : 32 ∉ p) : splitB p = [p] := by
  induction p with
  | nil => rfl
  | cons c p ih =>
    have hc : c ≠ 32 := by intro h; subst h; simp at hp
    have := ih (by intro h; exact hp (List.mem_cons_of_mem _ h))
    simp [splitB, hc, this]
theorem splitB_join : ∀ {ps : List (List Nat)}, ps ≠ [] → (∀ p ∈ ps, 32 ∉ p) → splitB (joinB ps) = ps
  | [], h, _ => absurd rfl h
  | [p], _, h => splitB_free (h p (by simp))
  | p :: q :: r, _, h => by
    show splitB (p ++ 32 :: joinB (q :: r)) = _
    rw [splitB_app (h p (by simp)), splitB_join (by simp) (fun x hx => h x (List.mem_cons_of_mem _ hx))]
def lowR (c : Nat) : Nat := if c = 82 then 114 else if c = 69 then 101 else if c = 70 then 102 else if c = 87 then 119 else if c = 68 then 100 else c
theorem lowR_iff {c t : Nat} (ht : t = 114 ∨ t = 101 ∨ t = 102 ∨ t = 119 ∨ t = 100) : lowR c = t ↔ low c = t := by
  unfold lowR low
  by_cases h1 : c = 82
  · subst h1; simp
  by_cases h2 : c = 69
  · subst h2; simp
  by_cases h3 : c = 70
  · subst h3; simp
  by_cases h4 : c = 87
  · subst h4; simp
  by_cases h5 : c = 68
  · subst h5; simp
  simp only [h1, h2, h3, h4, h5, if_false]
  split <;> omega
theorem lowR_list : ∀ {w s : List Nat}, (∀ t ∈ w, t = 114 ∨ t = 101 ∨ t = 102 ∨ t = 119 ∨ t = 100) → (s.map lowR = w ↔ s.map low = w)
  | [], s, _ => by cases s <;> simp
  | t :: w, [], _ => by simp
  | t :: w, c :: s, h => by
    simp only [List.map_cons, List.cons.injEq]
    rw [lowR_iff (h t (by simp)), lowR_list fun t' ht' => h t' (List.mem_cons_of_mem _ ht')]
theorem lowR_eq {w s : List Nat} {b : Bool} (hw : ∀ t ∈ w, t = 114 ∨ t = 101 ∨ t = 102 ∨ t = 119 ∨ t = 100) (h : (s.map lowR == w) = b) : (s.map low == w) = b := by
  rw [← h, Bool.eq_iff_iff, beq_iff_eq, beq_iff_eq, lowR_list hw]
theorem word_pos {w L : List Nat} (h : 0 < word w L) : (L.take w.length).map low = w := by
  unfold word at h
  split at h
  · assumption
  · omega
theorem head_low {w L : List Nat} {c : Nat} {r : List Nat} (h : (L.take w.length).map low = w) (hw : w = c :: r) : ∃ d L', L = d :: L' ∧ low d = c := by
  subst hw
  cases L with
  | nil => simp at h
  | cons d L' => simp at h; exact ⟨d, L', rfl, h.1⟩
theorem excl_re {L : List Nat} (h : 0 < word wFwd L) : word wRe L = 0 := by
  obtain ⟨d, L', hL, hd⟩ := head_low (word_pos h) (c := 102) (r := [119, 100]) rfl
  apply Classical.byContradiction
  intro hn
  obtain ⟨d', L'', hL', hd'⟩ := head_low (word_pos (w := wRe) (L := L) (by omega)) (c := 114) (r := [101]) rfl
  rw [hL] at hL'
  cases hL'
  omega
theorem lead_at' {L wl : List Nat} {i : Nat} (hi : i < 3) (hP : ∀ j, j < i → word ([wFwd, wRe, wFw].getD j []) L = 0) (hw : [wFwd, wRe, wFw].getD i [] = wl) (hpos : 0 < word wl L) : lead L = word wl L := by
  unfold lead
  rcases i with _ | _ | _ | i
  · have : wl = wFwd := hw.symm
    subst this
    have h0 := excl_re hpos
    rw [if_neg (by omega), if_pos hpos]
  · have : wl = wRe := hw.symm
    subst this; rw [if_pos hpos]
  · have : wl = wFw := hw.symm
    subst this
    have h0 : word wFwd L = 0 := hP 0 (by omega)
    have h1 : word wRe L = 0 := hP 1 (by omega)
    rw [if_neg (by omega), if_neg (by omega)]
  · omega
theorem lead_none' {L : List Nat} (hP : ∀ j, j < 3 → word ([wFwd, wRe, wFw].getD j []) L = 0) : lead L = 0 := by
  have h0 : word wFwd L = 0 := hP 0 (by omega)
  have h1 : word wRe L = 0 := hP 1 (by omega)
  have h2 : word wFw L = 0 := hP 2 (by omega)
  simp [lead, h0, h1, h2]
end Mine
end
section
open PySem PySem.W PySem.Calls PyProof.Rows
set_option Elab.async false
namespace Mine
theorem low_lt {c : Nat} (h : c < 128) : low c < 128 := by unfold low; split <;> omega
theorem mkS_append (a b : List Nat) : mkS a ++ mkS b = mkS (a ++ b) := by
  refine Str.ext' (Array.toList_inj.mp ?_)
  rw [Str.cps_append, Array.toList_append]; rfl
theorem join_nil {sep : Str} (hs : sep.cps.toList = []) : ∀ l : List (List Nat), Txt.join sep (l.map mkS) = mkS l.flatten := by
  intro l
  show Builtin.Str.glued sep (l.map mkS) = _
  rw [StrLaws.glued_eq_join]
  have he : sep = mkS [] := by rw [← hs]; rfl
  subst he
  induction l with
  | nil => rfl
  | cons a r ih =>
    cases r with
    | nil => show mkS a = _; simp
    | cons b r =>
      show mkS a ++ mkS [] ++ Str.join (mkS []) ((b :: r).map mkS) = _
      rw [ih, mkS_append, mkS_append]; simp
theorem flat_one (g : Nat → Nat) (l : List Nat) : (l.map fun c => [g c]).flatten = l.map g := by
  induction l with
  | nil => rfl
  | cons a r ih => simp [ih]
theorem sum_one (g : Nat → Nat) (l : List Nat) : ((l.map fun c => mkS [g c]).map (·.length)).sum = l.length := by
  induction l with
  | nil => rfl
  | cons a r ih => simp only [List.map_cons, List.sum_cons, ih, length_mkS, List.length_cons, List.length_nil]; omega
theorem all_lt {x : Str} (ha : x.cps.all (· < 128) = true) : ∀ c ∈ x.cps.toList, c < 128 := by
  intro c hc
  rw [Array.all_eq_true'] at ha
  have := ha c (by simpa using hc)
  simpa using this
theorem len_toList (x : Str) : x.cps.toList.length = x.length := by simp [Str.length]
end Mine
end
section
open PySem PySem.W PySem.Calls PyProof.Rows PySem.Builtin PySem.Builtin.Str
set_option Elab.async false
namespace Mine
theorem slice_nat (x : Str) (a b : Nat) : Txt.slice x (some (a : Int)) (some (b : Int)) = mkS ((x.cps.toList.drop a).take (b - a)) := by
  have h1 : ¬ ((a : Int) < 0) := by omega
  have h2 : ¬ ((b : Int) < 0) := by omega
  have hl := len_toList x
  by_cases hab : min a x.length ≤ min b x.length
  · have e : Txt.slice x (some (a : Int)) (some (b : Int)) = StrLaws.sliceText x (some ((min a x.length : Nat) : Int)) (some ((min b x.length : Nat) : Int)) := by
      show StrLaws.sliceText _ _ _ = _
      unfold StrLaws.sliceText strSliceIndices
      have h3 : ¬ (((min a x.length : Nat) : Int) < 0) := by omega
      have h4 : ¬ (((min b x.length : Nat) : Int) < 0) := by omega
      simp only [h1, h2, h3, h4, if_false, show (1 : Int) > 0 by decide, if_true]
      have e1 : max (0 : Int) (min (a : Int) (x.length : Int)) = max (0 : Int) (min ((min a x.length : Nat) : Int) (x.length : Int)) := by omega
      have e2 : max (0 : Int) (min (b : Int) (x.length : Int)) = max (0 : Int) (min ((min b x.length : Nat) : Int) (x.length : Int)) := by omega
      rw [e1, e2]
    rw [e, StrLaws.sliceText_nat x hab (Nat.min_le_right _ _)]
    show mkS _ = mkS _
    congr 1
    by_cases ha : a ≤ x.length
    · rw [Nat.min_eq_left ha]
      by_cases hb : b ≤ x.length
      · rw [Nat.min_eq_left hb]
      · rw [Nat.min_eq_right (show x.length ≤ b by omega), List.take_of_length_le (by rw [List.length_drop, hl]; omega), List.take_of_length_le (by rw [List.length_drop, hl]; omega)]
    · rw [Nat.min_eq_right (show x.length ≤ a by omega), List.drop_of_length_le (l := x.cps.toList) (i := x.length) (by omega), List.drop_of_length_le (l := x.cps.toList) (i := a) (by omega)]
      rw [List.take_nil, List.take_nil]
  · have hb : b - a = 0 := by omega
    rw [hb, List.take_zero]
    show StrLaws.sliceText _ _ _ = _
    unfold StrLaws.sliceText strSliceIndices sliceRange
    simp only [h1, h2, if_false, show (1 : Int) > 0 by decide, if_true]
    have hn : ¬ (max (0 : Int) (min (a : Int) (x.length : Int)) < max (0 : Int) (min (b : Int) (x.length : Int))) := by omega
    have hx : ¬ (0 = x.length) := by omega
    simp only [hn, if_false]
    simp [hx, mkS]
theorem slice_to (x : Str) (b : Nat) : Txt.slice x none (some (b : Int)) = mkS (x.cps.toList.take b) := by
  have e : Txt.slice x none (some (b : Int)) = Txt.slice x (some ((0 : Nat) : Int)) (some (b : Int)) := by
    show StrLaws.sliceText _ _ _ = StrLaws.sliceText _ _ _
    unfold StrLaws.sliceText; rw [StrLaws.sliceIdx_none_lo]; rfl
  rw [e, slice_nat]; rfl
theorem slice_from (x : Str) (a : Nat) : Txt.slice x (some (a : Int)) none = mkS (x.cps.toList.drop a) := by
  have e : Txt.slice x (some (a : Int)) none = Txt.slice x (some (a : Int)) (some (x.length : Int)) := by
    show StrLaws.sliceText _ _ _ = StrLaws.sliceText _ _ _
    unfold StrLaws.sliceText; rw [StrLaws.sliceIdx_none_hi]
  rw [e, slice_nat, List.take_of_length_le (by rw [List.length_drop, len_toList]; omega)]
theorem slice_last (x : Str) (k : Nat) (hk : 0 < k) : Txt.slice x (some (-(k : Int))) none = mkS (x.cps.toList.drop (x.length - k)) := by
  rw [slice_from_neg (by omega)]
  have e : max (0 : Int) ((x.length : Int) + -(k : Int)) = ((x.length - k : Nat) : Int) := by omega
  rw [e, slice_from]
theorem eq_mkS (a b : List Nat) : (mkS a == mkS b) = (a == b) := by
  rw [Bool.eq_iff_iff, beq_iff_eq, beq_iff_eq]
  constructor
  · intro h; have := congrArg (fun s : Str => s.cps.toList) h; exact this
  · intro h; rw [h]
/-- find with both bounds -/
def find4 (x y : Str) (i j : Int) : Int := match occurrences x y (fromIndex x.length i) (min (fromIndex x.length j) x.length) 1 with | k :: _ => (k : Int) | [] => -1
theorem gives_find_to (x y : Str) (i j : Int) (t u v v' : Tok) : Gives («str.find» ⟨[.str x t, .str y u, .int i v, .int j v'], []⟩) (.int (find4 x y i j)) := by
  show Gives (match occurrences x y (fromIndex x.length i) (min (fromIndex x.length j) x.length) 1 with | k :: _ => retInt k | [] => (do rule "str.find.not-found"; retInt (-1))) _
  unfold find4
  cases occurrences x y (fromIndex x.length i) (min (fromIndex x.length j) x.length) 1 with
  | nil => exact .rule (.of_eq rfl)
  | cons k _ => exact .of_eq rfl
theorem find4_ {prog : Program} {w : World} {A : Around} {E : Value → Shared → Prop} {s : Shared} {x y : Str} {t u v v' : Tok} {i j : Int} {Q : Value → Shared → Prop}
    (hq : Q (.int (find4 x y i j) s.toks) { s with toks := s.toks + 1 }) : wpAny (model prog w) A (call (.builtin "str.find") [.str x t, .str y u, .int i v, .int j v']) Q E s :=
  call_gives F.slot_str_find (typeIs_str _ _ _) F.entry_str_find (F.args_str_find_4 _ _ _ _) (gives_find_to x y i j t u v v') hq
end Mine
end
section
open PySem PySem.W PySem.Calls PyProof.Rows PySem.Builtin PySem.Builtin.Str
set_option Elab.async false
namespace Mine
theorem getD_iff {x : Str} {v c : Nat} (hv : v < x.length) : x.cps.getD v 0 = c ↔ x.cps.toList[v]? = some c :=
  ⟨fun h => StrLaws.getElem?_of_getD hv h, fun h => StrLaws.getD_of_getElem? h⟩
theorem lt_of_some {x : Str} {v c : Nat} (h : x.cps.toList[v]? = some c) : v < x.length := by
  obtain ⟨hlt, _⟩ := List.getElem?_eq_some_iff.mp h
  rw [len_toList] at hlt; exact hlt
/-- find from a place on: none, or the first place -/
theorem find3_ {prog : Program} {w : World} {A : Around} {E : Value → Shared → Prop} {s : Shared} {x y : Str} (c : Nat) {t u v : Tok} {i : Nat} {Q : Value → Shared → Prop} (hy : y = ⟨#[c]⟩)
    (h1 : (∀ p, i ≤ p → x.cps.toList[p]? ≠ some c) → Q (.int (-1) s.toks) { s with toks := s.toks + 1 })
    (h2 : ∀ k : Nat, i ≤ k → x.cps.toList[k]? = some c → (∀ p, i ≤ p → p < k → x.cps.toList[p]? ≠ some c) → Q (.int (k : Nat) s.toks) { s with toks := s.toks + 1 }) :
    wpAny (model prog w) A (call (.builtin "str.find") [.str x t, .str y u, .int (i : Nat) v]) Q E s := by
  subst hy
  refine SC.find3 ?_
  have hfi : fromIndex x.length (i : Int) = i := by
    unfold fromIndex
    have : ¬ ((i : Int) < 0) := by omega
    simp [this]
  rcases StrLaws.find3_spec x c (i : Int) with ⟨e, hn⟩ | ⟨k, e, hk, hlt, hc, hn⟩
  · rw [e]
    rw [hfi] at hn
    refine h1 fun p hp hpc => hn p hp (lt_of_some hpc) (StrLaws.getD_of_getElem? hpc)
  · rw [e]
    rw [hfi] at hk hn
    exact h2 k hk ((getD_iff hlt).mp hc) fun p hp hpk hpc => hn p hp hpk (StrLaws.getD_of_getElem? hpc)
theorem occ_to (x : Str) (c lo hi : Nat) (hh : hi ≤ x.length) :
    (occurrences x ⟨#[c]⟩ lo hi 1 = [] ∧ ∀ p, lo ≤ p → p < hi → x.cps.toList[p]? ≠ some c) ∨
    ∃ k r, occurrences x ⟨#[c]⟩ lo hi 1 = k :: r ∧ lo ≤ k ∧ k < hi ∧ x.cps.toList[k]? = some c := by
  rw [StrLaws.occ_eq]
  rcases StrLaws.occ_first x ⟨#[c]⟩ hi 1 (Nat.le_refl 1) (List.range' lo (hi + 1 - lo)) lo (fun i h => by have := List.mem_range'_1.mp h; omega) with ⟨h0, hn⟩ | ⟨pre, a, post, e, h0, ha, hn⟩
  · refine .inl ⟨by rw [h0], fun p hlo hp hpc => ?_⟩
    refine hn p (by rw [List.mem_range'_1]; omega) ⟨by show p + 1 ≤ hi; omega, ?_⟩
    exact ((StrLaws.subAt_one x c p).mpr hpc).2
  · have hs := StrLaws.range'_split_from e
    have ha1 : a + 1 ≤ hi := ha.1
    have ha2 := (StrLaws.subAt_one x c a).mp ⟨by show a + 1 ≤ x.length; omega, ha.2⟩
    refine .inr ⟨a, ((forIn (List.range' lo (hi + 1 - lo)) ((#[] : Array Nat), lo) (StrLaws.occBody x ⟨#[c]⟩ hi 1)).run.fst.toList).tail, ?_, hs.1, by omega, ha2⟩
    generalize (forIn (List.range' lo (hi + 1 - lo)) ((#[] : Array Nat), lo) (StrLaws.occBody x ⟨#[c]⟩ hi 1)).run.fst = arr at h0
    have h1 : arr.toList[0]? = some a := by simpa using h0
    cases hL : arr.toList with
    | nil => rw [hL] at h1; cases h1
    | cons b t => rw [hL] at h1; simp at h1; rw [h1]; rfl
/-- find between two places: none, or some place -/
theorem find4r {prog : Program} {w : World} {A : Around} {E : Value → Shared → Prop} {s : Shared} {x y : Str} (c : Nat) {t u v v' : Tok} {i : Int} {j : Nat} {Q : Value → Shared → Prop} (hy : y = ⟨#[c]⟩)
    (hi : 0 ≤ i) (hj : j ≤ x.length)
    (h1 : (∀ p, i.toNat ≤ p → p < j → x.cps.toList[p]? ≠ some c) → Q (.int (-1) s.toks) { s with toks := s.toks + 1 })
    (h2 : ∀ k : Nat, i.toNat ≤ k → k < j → x.cps.toList[k]? = some c → Q (.int (k : Nat) s.toks) { s with toks := s.toks + 1 }) :
    wpAny (model prog w) A (call (.builtin "str.find") [.str x t, .str y u, .int i v, .int (j : Nat) v']) Q E s := by
  subst hy
  refine find4_ ?_
  have hfi : fromIndex x.length i = i.toNat := by
    unfold fromIndex
    have : ¬ (i < 0) := by omega
    simp only [this, if_false]; omega
  have hfj : fromIndex x.length (j : Int) = j := by
    unfold fromIndex
    have : ¬ ((j : Int) < 0) := by omega
    simp [this]
  unfold find4
  rw [hfi, hfj, Nat.min_eq_left hj]
  rcases occ_to x c i.toNat j hj with ⟨e, hn⟩ | ⟨k, r, e, hk, hkj, hc⟩
  · rw [e]; exact h1 hn
  · rw [e]; exact h2 k hk hkj hc
theorem sign_lit (c : Nat) : (⟨#[c]⟩ : Str) = mkS [c] := rfl
/-- what a slice of one sign is -/
theorem one_eq {x : Str} {k : Nat} {b : Bool} {y : Str} {c : Nat} (h : (Txt.slice x (some (k : Int)) (some ((k : Int) + 1)) == y) = b) (hy : y = mkS [c]) : ((x.cps.toList.drop k).take 1 == [c]) = b := by
  have e : ((k : Int) + 1) = ((k + 1 : Nat) : Int) := rfl
  rw [e, slice_nat, hy, eq_mkS, Nat.add_sub_cancel_left] at h
  exact h
theorem one_ne {x : Str} {k : Nat} {b : Bool} {y : Str} {c : Nat} (h : (Txt.slice x (some (k : Int)) (some ((k : Int) + 1)) != y) = b) (hy : y = mkS [c]) : ((x.cps.toList.drop k).take 1 == [c]) = !b := by
  have h' : (Txt.slice x (some (k : Int)) (some ((k : Int) + 1)) == y) = !b := by rw [← h]; simp [bne]
  exact one_eq h' hy
theorem one_yes {x : Str} {k : Nat} {y : Str} (c : Nat) (h : (Txt.slice x (some (k : Int)) (some ((k : Int) + 1)) == y) = true) (hy : y = mkS [c]) : (x.cps.toList.drop k).take 1 = [c] := eq_of_beq (one_eq h hy)
theorem one_no {x : Str} {k : Nat} {y : Str} (c : Nat) (h : (Txt.slice x (some (k : Int)) (some ((k : Int) + 1)) == y) = false) (hy : y = mkS [c]) : (x.cps.toList.drop k).take 1 ≠ [c] := ne_of_beq_false (one_eq h hy)
theorem one_ne_no {x : Str} {k : Nat} {y : Str} (c : Nat) (h : (Txt.slice x (some (k : Int)) (some ((k : Int) + 1)) != y) = true) (hy : y = mkS [c]) : (x.cps.toList.drop k).take 1 ≠ [c] := ne_of_beq_false (one_ne h hy)
theorem one_ne_yes {x : Str} {k : Nat} {y : Str} (c : Nat) (h : (Txt.slice x (some (k : Int)) (some ((k : Int) + 1)) != y) = false) (hy : y = mkS [c]) : (x.cps.toList.drop k).take 1 = [c] := eq_of_beq (one_ne h hy)
end Mine
end
section
open PySem PySem.W PySem.Calls PyProof.Rows PySem.Builtin PySem.Builtin.Str
set_option Elab.async false
namespace Mine
theorem take_blanks (l : List Nat) : (l.takeWhile (#[32] : Array Nat).contains).length = blanks l := by
  induction l with
  | nil => rfl
  | cons c r ih =>
    by_cases h : c = 32
    · subst h
      have : (#[32] : Array Nat).contains 32 = true := by simp
      rw [List.takeWhile_cons_of_pos this, List.length_cons, ih]; simp [blanks]
    · have : ¬ (#[32] : Array Nat).contains c = true := by simp; exact h
      rw [List.takeWhile_cons_of_neg this]; simp [blanks, h]
theorem mkS_strSub (l : List Nat) (a b : Nat) : strSub (mkS l) a b = mkS ((l.drop a).take (b - a)) := by
  refine Str.ext' (Array.toList_inj.mp ?_)
  rw [StrLaws.strSub_toList]; rfl
theorem lstrip_eq (l : List Nat) : Txt.lstripChars (mkS l) (mkS [32]) = mkS (l.drop (blanks l)) := by
  show (if stripSame (#[32] : Array Nat).contains true false (mkS l) = true then mkS l else PySem.stripped (#[32] : Array Nat).contains true false (mkS l)) = _
  have h1 : stripLo (#[32] : Array Nat).contains true (mkS l) = blanks l := take_blanks l
  have h2 : ∀ lo, stripHi (#[32] : Array Nat).contains false (mkS l) lo = l.length := fun lo => length_mkS l
  split
  · rename_i h
    simp only [stripSame, h1, Bool.and_eq_true, beq_iff_eq] at h
    rw [h.1]; rfl
  · simp only [PySem.stripped, h1, h2]
    rw [mkS_strSub, List.take_of_length_le (by rw [List.length_drop]; omega)]
/-- a text without the blanks at its end -/
def rstr (l : List Nat) : List Nat := l.take (l.length - blanks l.reverse)
theorem rstrip_eq (l : List Nat) : Txt.rstripChars (mkS l) (mkS [32]) = mkS (rstr l) := by
  show (if stripSame (#[32] : Array Nat).contains false true (mkS l) = true then mkS l else PySem.stripped (#[32] : Array Nat).contains false true (mkS l)) = _
  have h1 : stripLo (#[32] : Array Nat).contains false (mkS l) = 0 := rfl
  have h2 : stripHi (#[32] : Array Nat).contains true (mkS l) 0 = l.length - blanks l.reverse := by
    show (mkS l).length - ((l.drop 0).reverse.takeWhile _).length = _
    rw [length_mkS, List.drop_zero, take_blanks]
  split
  · rename_i h
    simp only [stripSame, h1, h2, Bool.and_eq_true, beq_iff_eq, length_mkS] at h
    rw [rstr, h.2, List.take_length]
  · simp only [PySem.stripped, h1, h2]
    rw [mkS_strSub]; simp [rstr]
section
variable {prog : Program} {w : World} {A : Around} {E : Value → Shared → Prop} {s : Shared} {l : List Nat} {y : Str} {t u : Tok} {Q : Value → Shared → Prop}
theorem lstrip_ (hy : y = mkS [32]) (hsz : (mkS l).length ≤ 100000) (h : ∀ t' k, Q (.str (mkS (l.drop (blanks l))) t') { s with toks := k }) : wpAny (model prog w) A (call (.builtin "str.lstrip") [.str (mkS l) t, .str y u]) Q E s := by
  subst hy
  refine SC.lstripChars (fun t' k => ?_) (by rw [sizeLine_eq]; omega)
  rw [lstrip_eq]; exact h t' k
theorem len_ (hsz : (mkS l).length ≤ 100000) (h : Q (.int (l.length : Nat) (s.toks + 1)) { s with toks := s.toks + 1 + 1 }) : wpAny (model prog w) A (call (.builtin "len") [.str (mkS l) t]) Q E s := by
  refine P.len_str (by omega) ?_
  rw [length_mkS]; exact h
theorem rstrip_ (hy : y = mkS [32]) (hsz : (mkS l).length ≤ 100000) (h : ∀ t' k, Q (.str (mkS (rstr l)) t') { s with toks := k }) : wpAny (model prog w) A (call (.builtin "str.rstrip") [.str (mkS l) t, .str y u]) Q E s := by
  subst hy
  refine SC.rstripChars (fun t' k => ?_) (by rw [sizeLine_eq]; omega)
  rw [rstrip_eq]; exact h t' k
end
section
variable {prog : Program} {w : World} {A : Around} {E : Value → Shared → Prop} {s : Shared} {value slice : Expr} {l : List Nat} {t : Tok} {h₀ : Heap} {L : Addr} {m : Str → Option Value} {news : List (Addr × Obj)} {Q : Value → Shared → Prop}
theorem slice_sn_ {i : Nat} {ui : Tok} (hF : Fr h₀ L s.heap m) (hN : News h₀ L s.heap news) (hsz : (mkS l).length ≤ 100000) (h : ∀ h' t' k, Fr h₀ L h' m → News h₀ L h' news → Q (.str (mkS (l.drop i)) t') { s with heap := h', toks := k })
    (hs : subscripted slice false (.str (mkS l) t) (.ref s.heap.objs.size) = operate [.ref s.heap.objs.size, .str (mkS l) t] (getItem (.str (mkS l) t) (.ref s.heap.objs.size)) := by with_unfolding_all rfl)
    (ht : ∀ r, letTemporaryGo value (.str (mkS l) t) r = pure () := by intro _; with_unfolding_all rfl) :
    wpAny (model prog w) A (subscriptTail value slice (.str (mkS l) t) (.ref s.heap.objs.size)) Q E { s with heap := s.heap.push { cls := .type "slice", data := .fields #[.int (i : Nat) ui, .none, .none] } } :=
  slice_strN_sn hF hN (fun h' t' k F N => by rw [slice_from]; exact h h' t' k F N) hs ht (by rw [sizeLine_eq]; omega)
theorem slice_neg_ {j : Int} {ui : Tok} (k : Nat) (hj : j = -(k : Int)) (hk : 0 < k) (hF : Fr h₀ L s.heap m) (hN : News h₀ L s.heap news) (hsz : (mkS l).length ≤ 100000) (h : ∀ h' t' kk, Fr h₀ L h' m → News h₀ L h' news → Q (.str (mkS (l.drop (l.length - k))) t') { s with heap := h', toks := kk })
    (hs : subscripted slice false (.str (mkS l) t) (.ref s.heap.objs.size) = operate [.ref s.heap.objs.size, .str (mkS l) t] (getItem (.str (mkS l) t) (.ref s.heap.objs.size)) := by with_unfolding_all rfl)
    (ht : ∀ r, letTemporaryGo value (.str (mkS l) t) r = pure () := by intro _; with_unfolding_all rfl) :
    wpAny (model prog w) A (subscriptTail value slice (.str (mkS l) t) (.ref s.heap.objs.size)) Q E { s with heap := s.heap.push { cls := .type "slice", data := .fields #[.int j ui, .none, .none] } } := by
  subst hj
  exact slice_strN_sn hF hN (fun h' t' kk F N => by rw [slice_last _ _ hk, length_mkS]; exact h h' t' kk F N) hs ht (by rw [sizeLine_eq]; omega)
theorem slice_ns_ {i : Nat} {ui : Tok} (hF : Fr h₀ L s.heap m) (hN : News h₀ L s.heap news) (hsz : (mkS l).length ≤ 100000) (h : ∀ h' t' k, Fr h₀ L h' m → News h₀ L h' news → Q (.str (mkS (l.take i)) t') { s with heap := h', toks := k })
    (hs : subscripted slice false (.str (mkS l) t) (.ref s.heap.objs.size) = operate [.ref s.heap.objs.size, .str (mkS l) t] (getItem (.str (mkS l) t) (.ref s.heap.objs.size)) := by with_unfolding_all rfl)
    (ht : ∀ r, letTemporaryGo value (.str (mkS l) t) r = pure () := by intro _; with_unfolding_all rfl) :
    wpAny (model prog w) A (subscriptTail value slice (.str (mkS l) t) (.ref s.heap.objs.size)) Q E { s with heap := s.heap.push { cls := .type "slice", data := .fields #[.none, .int (i : Nat) ui, .none] } } :=
  slice_strN_ns hF hN (fun h' t' k F N => by rw [slice_to]; exact h h' t' k F N) hs ht (by rw [sizeLine_eq]; omega)
end
end Mine
end
section
open PySem PySem.W PySem.Calls PyProof.Rows PySem.Builtin PySem.Builtin.Str
set_option Elab.async false
namespace Mine
theorem str_join_B : ∀ ps : List (List Nat), Str.join (mkS [32]) (ps.map mkS) = mkS (joinB ps)
  | [] => rfl
  | [p] => rfl
  | p :: q :: r => by
    show mkS p ++ mkS [32] ++ Str.join (mkS [32]) ((q :: r).map mkS) = _
    rw [str_join_B (q :: r), mkS_append, mkS_append]
    simp [joinB]
theorem join_B (ps : List (List Nat)) : Txt.join (mkS [32]) (ps.map mkS) = mkS (joinB ps) := by
  show Builtin.Str.glued _ _ = _
  rw [StrLaws.glued_eq_join, str_join_B]
theorem mkS_inj {a b : List Nat} (h : mkS a = mkS b) : a = b := congrArg (fun s : Str => s.cps.toList) h
theorem strs_mkS (ws : List Str) : ws = (ws.map fun s => s.cps.toList).map mkS := by
  rw [List.map_map]
  exact (List.map_id' ws).symm
theorem split_B (l : List Nat) : Txt.split (mkS l) (mkS [32]) = (splitB l).map mkS := by
  have hj := StrLaws.join_split (mkS l) (mkS [32])
  have hf := StrLaws.split_free (mkS l) 32
  have hp := split_pos (mkS l) (mkS [32])
  generalize hw : Txt.split (mkS l) (mkS [32]) = ws at hj hp
  have hf' : ∀ p ∈ ws, 32 ∉ p.cps.toList := by rw [← hw]; exact hf
  rw [strs_mkS ws] at hj ⊢
  rw [str_join_B] at hj
  have h2 := splitB_join (ps := ws.map fun s => s.cps.toList) (by intro h; have := List.map_eq_nil_iff.mp h; rw [this] at hp; simp at hp) (fun p hp => by
    obtain ⟨s, hs, rfl⟩ := List.mem_map.mp hp
    exact hf' s hs)
  rw [mkS_inj hj] at h2
  rw [h2]
end Mine
end
section
open PySem PySem.W PySem.Calls PyProof.Rows PyProof.V PySem.Spec
set_option Elab.async false
namespace Mine
def romD : List (PyData × PyData) := [(.str (Str.ofString "R"), .str (Str.ofString "r")), (.str (Str.ofString "E"), .str (Str.ofString "e")), (.str (Str.ofString "F"), .str (Str.ofString "f")), (.str (Str.ofString "W"), .str (Str.ofString "w")), (.str (Str.ofString "D"), .str (Str.ofString "d"))]
theorem rom_lookup (c : Nat) : (Spec.lookup (.str ⟨#[c]⟩) romD).getD (.str ⟨#[c]⟩) = .str (mkS [lowR c]) := by
  have e : ∀ a : Nat, Spec.same (.str ⟨#[a]⟩) (.str ⟨#[c]⟩) = decide (a = c) := by
    intro a
    show ((⟨#[a]⟩ : Str) == ⟨#[c]⟩) = _
    have : ((⟨#[a]⟩ : Str) == ⟨#[c]⟩) = (mkS [a] == mkS [c]) := rfl
    rw [this, eq_mkS]
    by_cases h : a = c
    · subst h; simp
    · simp [h]
  unfold romD
  rw [show Str.ofString "R" = ⟨#[82]⟩ by decide, show Str.ofString "E" = ⟨#[69]⟩ by decide, show Str.ofString "F" = ⟨#[70]⟩ by decide, show Str.ofString "W" = ⟨#[87]⟩ by decide, show Str.ofString "D" = ⟨#[68]⟩ by decide]
  simp only [Spec.lookup, e, decide_eq_true_eq]
  unfold lowR
  by_cases h1 : c = 82
  · subst h1; rfl
  by_cases h2 : c = 69
  · subst h2; rfl
  by_cases h3 : c = 70
  · subst h3; rfl
  by_cases h4 : c = 87
  · subst h4; rfl
  by_cases h5 : c = 68
  · subst h5; rfl
  have g1 : ¬ 82 = c := fun h => h1 h.symm
  have g2 : ¬ 69 = c := fun h => h2 h.symm
  have g3 : ¬ 70 = c := fun h => h3 h.symm
  have g4 : ¬ 87 = c := fun h => h4 h.symm
  have g5 : ¬ 68 = c := fun h => h5 h.symm
  simp only [h1, h2, h3, h4, h5, g1, g2, g3, g4, g5, if_false]
  rfl
section
variable {prog : Program} {w : World} {A : Around} {E : Value → Shared → Prop} {s : Shared} {h₀ : Heap} {L d : Addr} {m : Str → Option Value} {news : List (Addr × Obj)} {o : Obj} {Q : Value → Shared → Prop}
theorem rom_made {vs : List (Value × Value)} (F : Fr h₀ L s.heap m) (N : News h₀ L s.heap ((d, o) :: news)) (l1 : ∀ p ∈ news, p.1 < d) (lo : (d == sysModules) = false) (hd : o.IsDictOf (PySem.strKind prog w) []) (hk : allStrKeys vs = true) (hn : ((strPairs vs).map (·.1)).Nodup) (hv : allFlat vs = true) (e : strData vs = romD)
    (h : ∀ h' o', Fr h₀ L h' m → News h₀ L h' ((d, o') :: news) → StrTab prog w h' d romD → Q (.ref d) { s with heap := h', toks := s.toks + vs.length }) : KdnMade prog w (PySem.strKind prog w) d Q vs s := by
  refine kdn_made_strF F N (UpdF.head fun p hp => Nat.ne_of_lt (l1 p hp)) hd hk hn hv fun h' o' F' N' x y => h h' o' F' N' ?_
  rw [e] at y
  exact TabAt.ofNews N' (List.mem_cons_self ..) lo x y
theorem rom_get {c : Nat} {t u : Tok} (T : StrTab prog w s.heap d romD) (h : ∀ t', Q (.str (mkS [lowR c]) t') { s with toks := s.toks + 1 }) : wpAny (model prog w) A (call (.builtin "dict.get") [.ref d, .str ⟨#[c]⟩ t, .str ⟨#[c]⟩ u]) Q E s := by
  refine call_get2_strTab T (Flat.str _ _) fun v hv => ?_
  rw [rom_lookup] at hv
  have hr := hv s.heap
  cases hr
  exact h _
end
end Mine
end
section
open PySem PySem.W PySem.Calls PyProof.Rows
set_option Elab.async false
namespace Mine
local macro_rules | `(tactic| walk_at "my steps") => `(tactic| repeat' ((fail_if_success (with_reducible show wpAny _ _ (exec (Stmt.While _ _ _ _) _) _ _ _)); first | (k_unfold; (try dsimp only)) | (k_end; wrow_close) | walk1 | (dsimp only; walk1) | (leave1; walk_say "STEP leave1"; try dsimp only) | fail "no step"))
local macro_rules | `(tactic| walk_at "my in") => `(tactic| (intro p hp; first | exact hp | exact List.mem_cons_of_mem _ hp | exact List.mem_cons_of_mem _ (List.mem_cons_of_mem _ hp) | exact List.mem_cons_of_mem _ (List.mem_cons_of_mem _ (List.mem_cons_of_mem _ hp))))
set_option maxRecDepth 100000 in
set_option maxHeartbeats 8000000 in
theorem lower_code_ (w : World) (c : Nat) (tc : Tok) (news : Led) :
    Says w 21 1 [.int c tc] news (OutI (low c : Nat)) := by
  w_on
  unfold Says PG
  k_fill
  intro dp un gd cn cs a ccd cl outer A₀ base h₀ L m mean mg mb s Q E B F X N T hk hd hu hret
  refine wpAny_call ?_
  k_dflt cell_enter
  walk_at "my steps"
  all_goals (refine endI hret (by assumption) (by assumption) (by walk_at "my in") ?_)
  all_goals (simp only [decide_eq_true_eq, decide_eq_false_iff_not] at *; unfold low; split <;> omega)
local macro_rules | `(tactic| walk_at "call ref") => `(tactic| (k_here; (with_reducible show wpAny _ _ (call (Value.ref 21) _) _ _ _); k_dflt (refine' Says.useI (lower_code_ _ _ _ _) ?k1 ?k2 ?k3 ?k4 ?k5 ?k6 ?k7 ?k8 ?_; (case k1 => k_asm); (case k2 => k_asm); (case k3 => k_asm); (case k4 => k_asm); (case k5 => k_asm); (case k6 => first | exact rfl | assumption); (case k7 => ktr_room); (case k8 => ktr_units)); intro _ _ _ _ _; (try dsimp only)))
local macro_rules | `(tactic| walk_at "eval ListComp") => `(tactic| (k_here; (with_reducible show wpAny _ _ (eval (Expr.ListComp _ [⟨Expr.Name _ _, _, [], _⟩] _ _) _) _ _ _); k_dflt (refine ListComp_text (F₀ := by k_asm) (by with_unfolding_all rfl) (by decide) (by rfl) (by decide) (by rfl) ?_)))
set_option maxRecDepth 100000 in
set_option maxHeartbeats 8000000 in
theorem lower_text_ (w : World) (x : Str) (tx : Tok) (news : Led) (hx : x.length ≤ 100000) (ha : x.cps.all (· < 128) = true)  :
    Says w 26 2 [.str x tx] news (OutS (x.cps.toList.map low)) := by
  w_on
  unfold Says PG
  k_fill
  intro dp un gd cn cs a ccd cl outer A₀ base h₀ L m mean mg mb s Q E B F X N T hk hd hu hret
  refine wpAny_call ?_
  k_dflt cell_enter
  walk_at "my steps"
  refine ⟨_, _, _, rfl, rfl, by assumption, by assumption, ha, ?_, ?_⟩
  · rw [sizeLine_eq]; have : x.length = x.cps.size := rfl; omega
  rintro _ ⟨g, rfl⟩
  refine text_rest (fun c => mkS [low c]) ?_ ?_
  · intro c t I oI C oC D m₂ ys h tk E' hc hC hx F N off ne
    have hl := low_lt (all_lt ha c hc)
    walk_at "my steps"
    exact LCg.CompEnd.intro (by assumption) (by assumption) _ (fun p hp => hp) off trivial ⟨rfl, _, rfl⟩
  · intro ys hy
    intro D h tk F' N' o1
    walk_at "my steps"
    refine join_listW (ys := x.cps.toList.map fun c => mkS [low c]) (News.isList N' (List.mem_cons_self ..)) hy (by decide) ?_ ?_
    · rw [sum_one, List.length_map, len_toList]; omega
    intro t' k
    have e : Txt.join (Str.ofString "") (x.cps.toList.map fun c => mkS [low c]) = mkS (x.cps.toList.map low) := by
      have := join_nil (sep := Str.ofString "") rfl (x.cps.toList.map fun c => [low c])
      rw [flat_one, List.map_map] at this
      exact this
    rw [e]
    walk_at "my steps"
    refine endS hret (by assumption) (by assumption) (by walk_at "my in") rfl
end Mine
end
section
open PySem PySem.W PySem.Calls PyProof.Rows
set_option Elab.async false
namespace Mine
local macro_rules | `(tactic| walk_at "my steps") => `(tactic| repeat' ((fail_if_success (with_reducible show wpAny _ _ (exec (Stmt.While _ _ _ _) _) _ _ _)); first | (k_unfold; (try dsimp only)) | (k_end; wrow_close) | walk1 | (dsimp only; walk1) | (leave1; walk_say "STEP leave1"; try dsimp only) | fail "no step"))
local macro_rules | `(tactic| walk_at "my in") => `(tactic| (intro p hp; first | exact hp | exact List.mem_cons_of_mem _ hp | exact List.mem_cons_of_mem _ (List.mem_cons_of_mem _ hp) | exact List.mem_cons_of_mem _ (List.mem_cons_of_mem _ (List.mem_cons_of_mem _ hp))))
theorem blank1 {x : Str} {k : Nat} {b : Bool} (h : (Txt.slice x (some (k : Int)) (some ((k : Int) + 1)) == Str.ofString " ") = b) : ((x.cps.toList.drop k).take 1 == [32]) = b := by
  have e : ((k : Int) + 1) = ((k + 1 : Nat) : Int) := rfl
  rw [e, slice_nat, show Str.ofString " " = mkS [32] by decide, eq_mkS, Nat.add_sub_cancel_left] at h
  exact h
set_option maxRecDepth 100000 in
set_option maxHeartbeats 8000000 in
theorem past_blanks_ (w : World) (x : Str) (tx : Tok) (i : Nat) (ti : Tok) (news : Led) (hx : x.length ≤ 100000) (hi : i ≤ x.length) :
    Says w 39 1 [.str x tx, .int i ti] news (OutI (i + blanks (x.cps.toList.drop i) : Nat)) := by
  w_on
  unfold Says PG
  k_fill
  intro dp un gd cn cs a ccd cl outer A₀ base h₀ L m mean mg mb s Q E B F X N T hk hd hu hret
  refine wpAny_call ?_
  k_dflt cell_enter
  walk_at "my steps"
  refine ksw_while (fun _ => news) (fun c : Nat × Tok => [(Str.ofString "at", .int (c.1 : Nat) c.2)]) (fun _ => True) [] (fun c => c.1 ≤ x.length ∧ c.1 + blanks (x.cps.toList.drop c.1) = i + blanks (x.cps.toList.drop i)) (fun c => x.length - c.1) (i, ti) (by assumption) (by assumption) trivial (by kst_all) ⟨hi, rfl⟩ ?_
  rintro ⟨k, tk⟩ u h tkk - ⟨hk1, hk2⟩ Fk Nk
  dsimp only at hk1 hk2
  dsimp only [kstB] at Fk Nk
  walk_at "my steps"
  · have hb := blanks_yes (eq_of_beq (blank1 (x := x) (k := k) (b := true) (by assumption)))
    rw [len_toList] at hb
    refine ksw_end (k + 1, _) (by assumption) (by assumption) (fun p hp => hp) trivial (by kst_all) (by ksw_same) ⟨?_, ?_⟩ ?_
    · show k + 1 ≤ x.length; omega
    · show k + 1 + blanks (x.cps.toList.drop (k + 1)) = _; omega
    · show x.length - (k + 1) < x.length - k; omega
  · have hb := blanks_no (l := x.cps.toList) (k := k) (ne_of_beq_false (blank1 (x := x) (k := k) (b := false) (by assumption)))
    refine endI hret (by assumption) (by assumption) (by walk_at "my in") ?_
    rw [← hk2, hb]; rfl
end Mine
end
section
open PySem PySem.W PySem.Calls PyProof.Rows
set_option Elab.async false
namespace Mine
local macro_rules | `(tactic| walk_at "my steps") => `(tactic| repeat' ((fail_if_success (with_reducible show wpAny _ _ (exec (Stmt.While _ _ _ _) _) _ _ _)); first | (k_unfold; (try dsimp only)) | (k_end; wrow_close) | walk1 | (dsimp only; walk1) | (leave1; walk_say "STEP leave1"; try dsimp only) | fail "no step"))
local macro_rules | `(tactic| walk_at "my in") => `(tactic| (intro p hp; first | exact hp | exact List.mem_cons_of_mem _ hp | exact List.mem_cons_of_mem _ (List.mem_cons_of_mem _ hp) | exact List.mem_cons_of_mem _ (List.mem_cons_of_mem _ (List.mem_cons_of_mem _ hp))))
local macro_rules | `(tactic| walk_at "my side") => `(tactic| first | assumption | omega | (have := lt_of_some (c := 93) (by assumption); omega))
theorem past_blanks_I (w : World) (x : Str) (tx : Tok) (i : Int) (ti : Tok) (news : Led) (hx : x.length ≤ 100000) (h0 : 0 ≤ i) (hi : i ≤ (x.length : Int)) :
    Says w 39 1 [.str x tx, .int i ti] news (OutI (i.toNat + blanks (x.cps.toList.drop i.toNat) : Nat)) := by
  obtain ⟨n, rfl⟩ := Int.eq_ofNat_of_zero_le h0
  exact past_blanks_ w x tx n ti news hx (by omega)
local macro_rules | `(tactic| walk_at "call ref") => `(tactic| (k_here; (with_reducible show wpAny _ _ (call (Value.ref 39) _) _ _ _); k_dflt (refine' Says.useI (past_blanks_I _ _ _ _ _ _ (by walk_at "my side") (by walk_at "my side") (by walk_at "my side")) ?k1 ?k2 ?k3 ?k4 ?k5 ?k6 ?k7 ?k8 ?_; (case k1 => k_asm); (case k2 => k_asm); (case k3 => k_asm); (case k4 => k_asm); (case k5 => k_asm); (case k6 => first | exact rfl | assumption); (case k7 => ktr_room); (case k8 => ktr_units)); intro _ _ _ _ _; (try dsimp only)))
local macro_rules | `(tactic| walk_at "call builtin:str.find") => `(tactic| ((show wpAny _ _ (call (Value.builtin "str.find") [Value.str _ _, Value.str _ _, Value.int _ _]) _ _ _); (refine find3_ 93 (by decide) (fun _ => ?_) (fun _ _ _ _ => ?_))))
local macro_rules | `(tactic| walk_at "call builtin:str.find") => `(tactic| ((show wpAny _ _ (call (Value.builtin "str.find") [Value.str _ _, Value.str _ _, Value.int _ _, Value.int _ _]) _ _ _); (refine find4r 91 (by decide) (by omega) (by have := lt_of_some (c := 93) (by assumption); omega) (fun _ => ?_) (fun _ _ _ _ => ?_))))
set_option maxRecDepth 100000 in
set_option maxHeartbeats 8000000 in
theorem past_blob_ (w : World) (x : Str) (tx : Tok) (i : Nat) (ti : Tok) (news : Led) (hx : x.length ≤ 100000) (hi : i ≤ x.length) :
    Says w 46 2 [.str x tx, .int i ti] news (OutI (i + blob (x.cps.toList.drop i) : Nat)) := by
  w_on
  unfold Says PG
  k_fill
  intro dp un gd cn cs a ccd cl outer A₀ base h₀ L m mean mg mb s Q E B F X N T hk hd hu hret
  refine wpAny_call ?_
  k_dflt cell_enter
  walk_at "my steps"
  · refine endI hret (by assumption) (by assumption) (by walk_at "my in") ?_
    rw [blob_no (one_ne_no 91 (by assumption) (by decide))]; rfl
  · refine endI hret (by assumption) (by assumption) (by walk_at "my in") ?_
    rw [blob_none1 (one_ne_yes 91 (by assumption) (by decide)) (by assumption)]; rfl
  · refine endI hret (by assumption) (by assumption) (by walk_at "my in") ?_
    rw [blob_some (one_ne_yes 91 (by assumption) (by decide)) (by assumption) (by assumption) (by assumption) (by assumption)]; rfl
  · refine endI hret (by assumption) (by assumption) (by walk_at "my in") ?_
    rw [blob_none2 (one_ne_yes 91 (by assumption) (by decide)) (by assumption) (by assumption) (by assumption) (by assumption)]; rfl
end Mine
end
section
open PySem PySem.W PySem.Calls PyProof.Rows
set_option Elab.async false
namespace Mine
local macro_rules | `(tactic| walk_at "pad") => `(tactic| skip)
local macro_rules | `(tactic| walk_at "my steps") => `(tactic| repeat' ((fail_if_success (with_reducible show wpAny _ _ (exec (Stmt.While _ _ _ _) _) _ _ _)); (fail_if_success (with_reducible show wpAny _ _ (exec (Stmt.For _ _ _ _ _) _) _ _ _)); (fail_if_success (with_reducible show wpAny _ _ (pyIter _) _ _ _)); first | (k_unfold; (try dsimp only)) | (k_end; wrow_close) | walk1 | (dsimp only; walk1) | (leave1; walk_say "STEP leave1"; try dsimp only) | fail "no step"))
local macro_rules | `(tactic| walk_at "my in") => `(tactic| (intro p hp; first | exact hp | exact List.mem_append.mpr (.inl hp) | exact List.mem_append.mpr (.inr hp) | exact List.mem_cons_of_mem _ hp | exact List.mem_cons_of_mem _ (List.mem_cons_of_mem _ hp) | exact List.mem_cons_of_mem _ (List.mem_cons_of_mem _ (List.mem_cons_of_mem _ hp))))
theorem word_eq {l : List Nat} {k : Nat} {wl : List Nat} {b : Bool} (h : (Txt.slice (mkS (l.map low)) (some (k : Int)) (some ((k : Int) + ((mkS wl).length : Nat))) == mkS wl) = b) : (((l.drop k).take wl.length).map low == wl) = b := by
  have e : ((k : Int) + ((mkS wl).length : Nat)) = ((k + wl.length : Nat) : Int) := by rw [length_mkS]; rfl
  rw [e, slice_nat, eq_mkS, cps_mkS, Nat.add_sub_cancel_left, ← List.map_drop, ← List.map_take] at h
  exact h
theorem word_le {l : List Nat} {k : Nat} {wl : List Nat} (h : (Txt.slice (mkS (l.map low)) (some (k : Int)) (some ((k : Int) + ((mkS wl).length : Nat))) == mkS wl) = true) : (mkS wl).length ≤ l.length - k := by
  have := congrArg List.length (eq_of_beq (word_eq h))
  rw [List.length_map, List.length_take, List.length_drop] at this
  rw [length_mkS]; omega
theorem tup27 {w : World} {h : Heap} (X : (hd.heap_39 w.params).In h) : h.IsTuple 27 [Value.str (Str.ofString "re") 208, Value.str (Str.ofString "fwd") 209, Value.str (Str.ofString "fw") 210].toArray :=
  ⟨_, X 27 _ (by rfl), rfl, _, rfl⟩
local macro_rules | `(tactic| walk_at "my side") => `(tactic| first | assumption | omega | (have := word_le (by assumption); simp only [len_toList] at this; omega))
theorem blob_le_at {x : Str} {i : Nat} (h : i ≤ x.length) : i + blob (x.cps.toList.drop i) ≤ x.length := by
  have := blob_le (x.cps.toList.drop i)
  rw [List.length_drop, len_toList] at this; omega
theorem blanks_le_at {x : Str} {i : Nat} (h : i ≤ x.length) : i + blanks (x.cps.toList.drop i) ≤ x.length := by
  have := blanks_le (x.cps.toList.drop i)
  rw [List.length_drop, len_toList] at this; omega
theorem blobs_step {l : List Nat} {k z B : Nat} (h : k + blobs (l.drop k) = B) (hz : z = k + blob (l.drop k)) (hlt : k < z) : z + blobs (l.drop z) = B := by
  rw [← h, blobs_pos (l := l.drop k) (by omega), List.drop_drop, ← hz]; omega
theorem blobs_stop {l : List Nat} {k z B : Nat} (h : k + blobs (l.drop k) = B) (hz : z = k + blob (l.drop k)) (hlt : ¬ k < z) : B = k := by
  rw [← h, blobs_zero (l := l.drop k) (by omega)]; rfl
theorem words3 {i : Nat} {v : Value} (h : [Value.str (Str.ofString "re") 208, Value.str (Str.ofString "fwd") 209, Value.str (Str.ofString "fw") 210][i]? = some v) :
    ∃ wl tw, v = .str (mkS wl) tw ∧ [wRe, wFwd, wFw].getD i [] = wl ∧ (mkS wl).length ≤ 3 ∧ i < 3 := by
  rcases i with _ | _ | _ | i
  · simp at h; exact ⟨wRe, 208, h ▸ rfl, rfl, by decide, by omega⟩
  · simp at h; exact ⟨wFwd, 209, h ▸ rfl, rfl, by decide, by omega⟩
  · simp at h; exact ⟨wFw, 210, h ▸ rfl, rfl, by decide, by omega⟩
  · simp at h
local macro_rules | `(tactic| walk_at "call ref") => `(tactic| (k_here; (with_reducible show wpAny _ _ (call (Value.ref 39) _) _ _ _); (first | (k_dflt (refine' Says.useN (past_blanks_ _ _ _ _ _ _ (by walk_at "my side") (by walk_at "my side")) (blanks_le_at (by walk_at "my side")) ?k1 ?k2 ?k3 ?k4 ?k5 ?k6 ?k7 ?k8 ?_; (case k1 => k_asm); (case k2 => k_asm); (case k3 => k_asm); (case k4 => k_asm); (case k5 => k_asm); (case k6 => first | exact rfl | assumption); (case k7 => ktr_room); (case k8 => ktr_units)))); intro _ _ _ _ _ _ _ _; (try dsimp only)))
local macro_rules | `(tactic| walk_at "call ref") => `(tactic| (k_here; (with_reducible show wpAny _ _ (call (Value.ref 46) _) _ _ _); (first | (k_dflt (refine' Says.useN (past_blob_ _ _ _ _ _ _ (by walk_at "my side") (by walk_at "my side")) (blob_le_at (by walk_at "my side")) ?k1 ?k2 ?k3 ?k4 ?k5 ?k6 ?k7 ?k8 ?_; (case k1 => k_asm); (case k2 => k_asm); (case k3 => k_asm); (case k4 => k_asm); (case k5 => k_asm); (case k6 => first | exact rfl | assumption); (case k7 => ktr_room); (case k8 => ktr_units)))); intro _ _ _ _ _ _ _ _; (try dsimp only)))
local macro_rules | `(tactic| walk_at "call ref") => `(tactic| (k_here; (with_reducible show wpAny _ _ (call (Value.ref 26) _) _ _ _); (first | (k_dflt (refine' Says.useS (lower_text_ _ _ _ _ (by walk_at "my side") (by walk_at "my side")) ?k1 ?k2 ?k3 ?k4 ?k5 ?k6 ?k7 ?k8 ?_; (case k1 => k_asm); (case k2 => k_asm); (case k3 => k_asm); (case k4 => k_asm); (case k5 => k_asm); (case k6 => first | exact rfl | assumption); (case k7 => ktr_room); (case k8 => ktr_units)))); intro _ _ _ _ _; (try dsimp only)))
set_option maxRecDepth 100000 in
set_option maxHeartbeats 8000000 in
theorem past_leader_ (w : World) (x : Str) (tx : Tok) (news : Led) (hx : x.length ≤ 100000) (ha : x.cps.all (· < 128) = true) :
    Says w 53 3 [.str x tx] news (OutI ((if 0 < lead (x.cps.toList.drop (blobs x.cps.toList)) then blobs x.cps.toList + lead (x.cps.toList.drop (blobs x.cps.toList)) else 0 : Nat) : Int)) := by
  w_on
  unfold Says PG
  k_fill
  intro dp un gd cn cs a ccd cl outer A₀ base h₀ L m mean mg mb s Q E B F X N T hk hdp hu hret
  refine wpAny_call ?_
  k_dflt cell_enter
  walk_at "my steps"
  refine ksw_while (fun _ => news) (fun c : Nat × Tok => [(Str.ofString "at", .int (c.1 : Nat) c.2)]) (fun _ => True) [] (fun c => c.1 ≤ x.length ∧ c.1 + blobs (x.cps.toList.drop c.1) = blobs x.cps.toList) (fun c => x.length - c.1) (0, _) (by assumption) (by assumption) trivial (by kst_all) ⟨by show 0 ≤ _; omega, by simp⟩ ?_
  rintro ⟨k, tk⟩ u h tkk - ⟨hk1, hk2⟩ Fk Nk
  dsimp only at hk1 hk2
  dsimp only [kstB] at Fk Nk
  walk_at "my steps"
  · refine ksw_end (⟨_, _⟩ : Nat × Tok) (by assumption) (by assumption) (fun p hp => hp) trivial (by kst_all) (by ksw_same) ⟨by assumption, blobs_step hk2 (by assumption) (by omega)⟩ ?_
    dsimp only; omega
  have hsm : (mkS (x.cps.toList.map low)).length ≤ 100000 := by rw [length_mkS, List.length_map, len_toList]; exact hx
  have hbl : blobs x.cps.toList = k := blobs_stop hk2 (by assumption) (by omega)
  clear hk2
  refine For_invVF (by assumption) (by rfl) (by rfl) ?_
  walk_at "my steps"
  refine seq_tuple (items := [Value.str (Str.ofString "re") 208, Value.str (Str.ofString "fwd") 209, Value.str (Str.ofString "fw") 210]) (fun _ : Unit => []) [Str.ofString "behind"] (fun i _ => ∀ j, j < i → word ([wRe, wFwd, wFw].getD j []) (x.cps.toList.drop k) = 0) () (by rfl) ?_ (by assumption) (by assumption) (by kst_all) (fun j hj => absurd hj (Nat.not_lt_zero _)) ?_ ?_
  · exact tup27 (w := w) (by assumption)
  · intro c i v u' hh tk' own hv hP Fk' Nk'
    dsimp only [kstB] at Fk'
    obtain ⟨wl, tw, rfl, hwl, hlen, hi3⟩ := words3 hv
    walk_at "my steps"
    · refine endI hret (by assumption) (by assumption) (by walk_at "my in") ?_
      have hw := word_yes (word_eq (l := x.cps.toList) (k := k) (wl := wl) (b := true) (by assumption)) (by assumption) (by assumption) (one_yes 58 (by assumption) (by decide))
      have hl := lead_at hi3 hP hwl (by omega)
      rw [hbl, hl, if_pos (by omega), hw]; rfl
    · have hw := word_no2 (word_eq (l := x.cps.toList) (k := k) (wl := wl) (b := true) (by assumption)) (by assumption) (by assumption) (one_no 58 (by assumption) (by decide))
      refine seq_end () (by assumption) (by assumption) (by walk_at "my in") (by walk_at "my in") (by kst_all) (by kst_same) (next_all hP (by rw [hwl]; exact hw))
    · have hw := word_no1 (word_eq (l := x.cps.toList) (k := k) (wl := wl) (b := false) (by assumption))
      refine seq_end () (by assumption) (by assumption) (by walk_at "my in") (by walk_at "my in") (by kst_all) (by kst_same) (next_all hP (by rw [hwl]; exact hw))
  · intro c u' hh tk' hP Fk' Nk'
    dsimp only [kstB] at Fk'
    walk_at "my steps"
    refine endI hret (by assumption) (by assumption) (by walk_at "my in") ?_
    rw [hbl, lead_none hP]; rfl
end Mine
end
section
open PySem PySem.W PySem.Calls PyProof.Rows
set_option Elab.async false
namespace Mine
local macro_rules | `(tactic| walk_at "my steps") => `(tactic| repeat' ((fail_if_success (with_reducible show wpAny _ _ (exec (Stmt.While _ _ _ _) _) _ _ _)); (fail_if_success (with_reducible show wpAny _ _ (exec (Stmt.For _ _ _ _ _) _) _ _ _)); (fail_if_success (with_reducible show wpAny _ _ (pyIter _) _ _ _)); first | (k_unfold; (try dsimp only)) | (k_end; wrow_close) | walk1 | (dsimp only; walk1) | (leave1; walk_say "STEP leave1"; try dsimp only) | fail "no step"))
local macro_rules | `(tactic| walk_at "my in") => `(tactic| (intro p hp; first | exact hp | exact List.mem_append.mpr (.inl hp) | exact List.mem_append.mpr (.inr hp) | exact List.mem_cons_of_mem _ hp | exact List.mem_cons_of_mem _ (List.mem_cons_of_mem _ hp) | exact List.mem_cons_of_mem _ (List.mem_cons_of_mem _ (List.mem_cons_of_mem _ hp))))
local macro_rules | `(tactic| walk_at "my side") => `(tactic| first | assumption | omega | (rw [length_mkS]; omega))
theorem past_blob_0 (w : World) (x : Str) (tx ti : Tok) (news : Led) (hx : x.length ≤ 100000) : Says w 46 2 [.str x tx, .int 0 ti] news (OutI (0 + blob (x.cps.toList.drop 0) : Nat)) :=
  past_blob_ w x tx 0 ti news hx (Nat.zero_le _)
theorem ascii_mkS {l : List Nat} (h : ∀ c ∈ l, c < 128) : (mkS l).cps.all (· < 128) = true := by
  rw [Array.all_eq_true']
  intro c hc
  have : c ∈ l := by simpa [mkS] using hc
  simpa using h c this
theorem wl_lead {l t : List Nat} {b : Bool} {z : Nat} (ht : t = l.drop (blanks l)) (hz : z = if 0 < lead (t.drop (blobs t)) then blobs t + lead (t.drop (blobs t)) else 0) (h : 0 < z) : wl (t.drop z) true = wl l b := by
  subst ht
  have hp : 0 < lead ((l.drop (blanks l)).drop (blobs (l.drop (blanks l)))) := by
    apply Classical.byContradiction; intro hn; rw [if_neg hn] at hz; omega
  rw [if_pos hp] at hz
  rw [wl.eq_1 l b, if_pos hp, hz]
theorem lead_lt {q : List Nat} {z : Nat} (hz : z = if 0 < lead ((q.drop (blanks q)).drop (blobs (q.drop (blanks q)))) then blobs (q.drop (blanks q)) + lead ((q.drop (blanks q)).drop (blobs (q.drop (blanks q)))) else 0) (h : 0 < z) : ((q.drop (blanks q)).drop z).length < q.length := by
  have hp : 0 < lead ((q.drop (blanks q)).drop (blobs (q.drop (blanks q)))) := by
    apply Classical.byContradiction; intro hn; rw [if_neg hn] at hz; omega
  have := lead_pos hp
  simp only [List.length_drop] at this ⊢
  omega
theorem blob_lt {q : List Nat} {z : Nat} (hz : z = 0 + blob ((q.drop (blanks q)).drop 0)) (h : ¬ z = 0) : ((q.drop (blanks q)).drop z).length < q.length := by
  have := blob_le (q.drop (blanks q))
  rw [List.drop_zero] at hz
  simp only [List.length_drop] at this ⊢
  omega
theorem lead_z {t : List Nat} {z : Nat} (hz : z = if 0 < lead (t.drop (blobs t)) then blobs t + lead (t.drop (blobs t)) else 0) (h : ¬ 0 < z) : ¬ 0 < lead (t.drop (blobs t)) := by
  intro hn; rw [if_pos hn] at hz; omega
theorem wl_stop {l t : List Nat} {b : Bool} {z z2 : Nat} (ht : t = l.drop (blanks l)) (hz : z = if 0 < lead (t.drop (blobs t)) then blobs t + lead (t.drop (blobs t)) else 0) (h : ¬ 0 < z)
    (hz2 : z2 = 0 + blob (t.drop 0)) (h2 : z2 = 0 ∨ z2 = t.length) : wl l b = (t, b) := by
  subst ht
  rw [wl.eq_1 l b, if_neg (lead_z hz h), if_pos]
  rw [List.drop_zero, Nat.zero_add] at hz2
  rw [← hz2]; exact h2
theorem wl_blob {l t : List Nat} {b : Bool} {z z2 : Nat} (ht : t = l.drop (blanks l)) (hz : z = if 0 < lead (t.drop (blobs t)) then blobs t + lead (t.drop (blobs t)) else 0) (h : ¬ 0 < z)
    (hz2 : z2 = 0 + blob (t.drop 0)) (h2 : ¬ z2 = 0) (h3 : ¬ z2 = t.length) : wl (t.drop z2) b = wl l b := by
  subst ht
  rw [List.drop_zero, Nat.zero_add] at hz2
  rw [wl.eq_1 l b, if_neg (lead_z hz h), if_neg, hz2]
  rw [← hz2]
  exact fun hn => hn.elim h2 h3
local macro_rules | `(tactic| walk_at "my size") => `(tactic| first | assumption | (rw [length_mkS]; assumption) | (rw [length_mkS]; omega))
local macro_rules | `(tactic| walk_at "call builtin:len") => `(tactic| ((show wpAny _ _ (call (Value.builtin "len") [Value.str (mkS _) _]) _ _ _); (refine len_ (by walk_at "my size") ?_)))
local macro_rules | `(tactic| walk_at "call builtin:str.lstrip") => `(tactic| ((show wpAny _ _ (call (Value.builtin "str.lstrip") [Value.str (mkS _) _, Value.str _ _]) _ _ _); (refine lstrip_ (by decide) (by walk_at "my size") ?_); intro _ _))
local macro_rules | `(tactic| walk_at "call builtin:str.rstrip") => `(tactic| ((show wpAny _ _ (call (Value.builtin "str.rstrip") [Value.str (mkS _) _, Value.str _ _]) _ _ _); (refine rstrip_ (by decide) (by walk_at "my size") ?_); intro _ _))
local macro_rules | `(tactic| walk_at "subscriptTail Name Slice str ref") => `(tactic| ((with_reducible show wpAny _ _ (subscriptTail _ (Expr.Slice (some _) none none _) (Value.str (mkS _) _) _) _ _ _); (with_reducible rename Fr _ _ _ _ => F'); (with_reducible rename News _ _ _ _ => N'); (refine slice_sn_ (s := ⟨_, _, _, _, _⟩) F' N' (by walk_at "my size") ?_); intro _ _ _ _ _))
local macro_rules | `(tactic| walk_at "subscriptTail Name Slice str ref") => `(tactic| ((with_reducible show wpAny _ _ (subscriptTail _ (Expr.Slice none (some _) none _) (Value.str (mkS _) _) _) _ _ _); (with_reducible rename Fr _ _ _ _ => F'); (with_reducible rename News _ _ _ _ => N'); (refine slice_ns_ (s := ⟨_, _, _, _, _⟩) F' N' (by walk_at "my size") ?_); intro _ _ _ _ _))
local macro_rules | `(tactic| walk_at "subscriptTail Name Slice str ref") => `(tactic| ((with_reducible show wpAny _ _ (subscriptTail _ (Expr.Slice (some (Expr.UnaryOp _ _ _)) none none _) (Value.str (mkS _) _) _) _ _ _); (with_reducible rename Fr _ _ _ _ => F'); (with_reducible rename News _ _ _ _ => N'); (first | (refine slice_neg_ (s := ⟨_, _, _, _, _⟩) 5 (by decide) (by decide) F' N' (by walk_at "my size") ?_) | (refine slice_neg_ (s := ⟨_, _, _, _, _⟩) 1 (by decide) (by decide) F' N' (by walk_at "my size") ?_)); intro _ _ _ _ _))
local macro_rules | `(tactic| walk_at "call ref") => `(tactic| (k_here; (with_reducible show wpAny _ _ (call (Value.ref 46) _) _ _ _); (first | (k_dflt (refine' Says.useN (past_blob_0 _ _ _ _ _ (by walk_at "my side")) (Nat.le_refl _) ?k1 ?k2 ?k3 ?k4 ?k5 ?k6 ?k7 ?k8 ?_; (case k1 => k_asm); (case k2 => k_asm); (case k3 => k_asm); (case k4 => k_asm); (case k5 => k_asm); (case k6 => first | exact rfl | assumption); (case k7 => ktr_room); (case k8 => ktr_units)))); intro _ _ _ _ _ _ _ _; (try dsimp only)))
local macro_rules | `(tactic| walk_at "call ref") => `(tactic| (k_here; (with_reducible show wpAny _ _ (call (Value.ref 53) _) _ _ _); (first | (k_dflt (refine' Says.useN (past_leader_ _ _ _ _ (by walk_at "my side") (ascii_mkS (by assumption))) (Nat.le_refl _) ?k1 ?k2 ?k3 ?k4 ?k5 ?k6 ?k7 ?k8 ?_; (case k1 => k_asm); (case k2 => k_asm); (case k3 => k_asm); (case k4 => k_asm); (case k5 => k_asm); (case k6 => first | exact rfl | assumption); (case k7 => ktr_room); (case k8 => ktr_units)))); intro _ _ _ _ _ _ _ _; (try dsimp only)))
set_option maxRecDepth 100000 in
set_option maxHeartbeats 8000000 in
theorem without_leaders_ (w : World) (l : List Nat) (tx : Tok) (news : Led) (hx : l.length ≤ 100000) (ha : ∀ c ∈ l, c < 128) :
    Says w 67 4 [.str (mkS l) tx] news (OutP (wl l false).1 (wl l false).2) := by
  w_on
  unfold Says PG
  k_fill
  intro dp un gd cn cs a ccd cl outer A₀ base h₀ L m mean mg mb s Q E B F X N T hk hdp hu hret
  refine wpAny_call ?_
  k_dflt cell_enter
  walk_at "my steps"
  refine ksw_while (fun _ => news) (fun c : (List Nat × Tok) × Bool => [(Str.ofString "text", .str (mkS c.1.1) c.1.2), (Str.ofString "is_cut", .bool c.2)]) (fun _ => True) [Str.ofString "behind"] (fun c => c.1.1.length ≤ 100000 ∧ (∀ d ∈ c.1.1, d < 128) ∧ wl c.1.1 c.2 = wl l false) (fun c => c.1.1.length) ((l, tx), false) (by assumption) (by assumption) trivial (by kst_all) ⟨hx, ha, rfl⟩ ?_
  rintro ⟨⟨q, tq⟩, b⟩ u h tkk - ⟨hq1, hq2, hq3⟩ Fk Nk
  dsimp only at hq1 hq2 hq3
  dsimp only [kstB] at Fk Nk
  have ht1 : (q.drop (blanks q)).length ≤ 100000 := by rw [List.length_drop]; omega
  have ht2 : ∀ d ∈ q.drop (blanks q), d < 128 := fun d hd => hq2 d (List.mem_of_mem_drop hd)
  walk_at "my steps"
  · have hl := wl_lead (b := b) rfl (by assumption) (by omega)
    have hlt := lead_lt (q := q) (by assumption) (by omega)
    refine ksw_end ((⟨_, _⟩, _) : (List Nat × Tok) × Bool) (by assumption) (by assumption) (fun p hp => hp) trivial (by kst_all) (by ksw_same) ⟨?_, ?_, ?_⟩ ?_
    · show (List.drop _ _).length ≤ _
      rw [List.length_drop]; omega
    · exact fun d hd => ht2 d (List.mem_of_mem_drop hd)
    · exact hl.trans hq3
    · exact hlt
  · refine endP hret (by assumption) (by assumption) (by walk_at "my in") (List.mem_cons_self ..) ?_
    have hs := wl_stop (b := b) rfl (by assumption) (by omega) (by assumption) (.inl (by omega))
    rw [← hs, hq3]
  · refine endP hret (by assumption) (by assumption) (by walk_at "my in") (List.mem_cons_self ..) ?_
    have hs := wl_stop (b := b) rfl (by assumption) (by omega) (by assumption) (.inr (by omega))
    rw [← hs, hq3]
  · have hl := wl_blob (b := b) rfl (by assumption) (by omega) (by assumption) (by omega) (by omega)
    refine ksw_end ((⟨_, _⟩, _) : (List Nat × Tok) × Bool) (by assumption) (by assumption) (fun p hp => hp) trivial (by kst_all) (by ksw_same) ⟨?_, ?_, ?_⟩ ?_
    · show (List.drop _ _).length ≤ _
      rw [List.length_drop]; omega
    · exact fun d hd => ht2 d (List.mem_of_mem_drop hd)
    · exact hl.trans hq3
    · exact blob_lt (q := q) (by assumption) (by omega)
end Mine
end
section
open PySem PySem.W PySem.Calls PyProof.Rows
set_option Elab.async false
namespace Mine
local macro_rules | `(tactic| walk_at "pad") => `(tactic| skip)
local macro_rules | `(tactic| walk_at "my steps") => `(tactic| repeat' ((fail_if_success (with_reducible show wpAny _ _ (exec (Stmt.While _ _ _ _) _) _ _ _)); (fail_if_success (with_reducible show wpAny _ _ (exec (Stmt.For _ _ _ _ _) _) _ _ _)); (fail_if_success (with_reducible show wpAny _ _ (pyIter _) _ _ _)); first | (k_unfold; (try dsimp only)) | (k_end; wrow_close) | walk1 | (dsimp only; walk1) | (leave1; walk_say "STEP leave1"; try dsimp only) | fail "no step"))
local macro_rules | `(tactic| walk_at "my in") => `(tactic| (intro p hp; first | exact hp | exact List.mem_append.mpr (.inl hp) | exact List.mem_append.mpr (.inr hp) | exact List.mem_cons_of_mem _ hp | exact List.mem_cons_of_mem _ (List.mem_cons_of_mem _ hp) | exact List.mem_cons_of_mem _ (List.mem_cons_of_mem _ (List.mem_cons_of_mem _ hp))))
local macro_rules | `(tactic| walk_at "my side") => `(tactic| first | assumption | omega | (rw [length_mkS]; omega))
local macro_rules | `(tactic| walk_at "my size") => `(tactic| first | assumption | (rw [length_mkS]; assumption) | (rw [length_mkS]; omega))
local macro_rules | `(tactic| walk_at "call builtin:len") => `(tactic| ((show wpAny _ _ (call (Value.builtin "len") [Value.str (mkS _) _]) _ _ _); (refine len_ (by walk_at "my size") ?_)))
local macro_rules | `(tactic| walk_at "call builtin:str.lstrip") => `(tactic| ((show wpAny _ _ (call (Value.builtin "str.lstrip") [Value.str (mkS _) _, Value.str _ _]) _ _ _); (refine lstrip_ (by decide) (by walk_at "my size") ?_); intro _ _))
local macro_rules | `(tactic| walk_at "call builtin:str.rstrip") => `(tactic| ((show wpAny _ _ (call (Value.builtin "str.rstrip") [Value.str (mkS _) _, Value.str _ _]) _ _ _); (refine rstrip_ (by decide) (by walk_at "my size") ?_); intro _ _))
local macro_rules | `(tactic| walk_at "subscriptTail Name Slice str ref") => `(tactic| ((with_reducible show wpAny _ _ (subscriptTail _ (Expr.Slice (some _) none none _) (Value.str (mkS _) _) _) _ _ _); (with_reducible rename Fr _ _ _ _ => F'); (with_reducible rename News _ _ _ _ => N'); (refine slice_sn_ (s := ⟨_, _, _, _, _⟩) F' N' (by walk_at "my size") ?_); intro _ _ _ _ _))
local macro_rules | `(tactic| walk_at "subscriptTail Name Slice str ref") => `(tactic| ((with_reducible show wpAny _ _ (subscriptTail _ (Expr.Slice none (some _) none _) (Value.str (mkS _) _) _) _ _ _); (with_reducible rename Fr _ _ _ _ => F'); (with_reducible rename News _ _ _ _ => N'); (refine slice_ns_ (s := ⟨_, _, _, _, _⟩) F' N' (by walk_at "my size") ?_); intro _ _ _ _ _))
local macro_rules | `(tactic| walk_at "subscriptTail Name Slice str ref") => `(tactic| ((with_reducible show wpAny _ _ (subscriptTail _ (Expr.Slice (some (Expr.UnaryOp _ _ _)) none none _) (Value.str (mkS _) _) _) _ _ _); (with_reducible rename Fr _ _ _ _ => F'); (with_reducible rename News _ _ _ _ => N'); (first | (refine slice_neg_ (s := ⟨_, _, _, _, _⟩) 5 (by decide) (by decide) F' N' (by walk_at "my size") ?_) | (refine slice_neg_ (s := ⟨_, _, _, _, _⟩) 1 (by decide) (by decide) F' N' (by walk_at "my size") ?_)); intro _ _ _ _ _))
theorem rstr_le (l : List Nat) : (rstr l).length ≤ l.length := by unfold rstr; rw [List.length_take]; omega
theorem trailer_absurd {q : List Nat} {n : Nat} (hp : 40 ∉ q) (h : (mkS (((rstr q).drop n).map low) != Str.ofString "(fwd)") = false) : False := by
  have e : mkS (((rstr q).drop n).map low) = mkS [40, 102, 119, 100, 41] := by
    have : (mkS (((rstr q).drop n).map low) == Str.ofString "(fwd)") = true := by simpa [bne] using h
    rw [eq_of_beq this]; decide
  have e2 : ((rstr q).drop n).map low = [40, 102, 119, 100, 41] := congrArg (fun s : Str => s.cps.toList) e
  have hm : 40 ∈ ((rstr q).drop n).map low := by rw [e2]; simp
  obtain ⟨c, hc, h40⟩ := List.mem_map.mp hm
  have hcq : c ∈ q := List.mem_of_mem_take (List.mem_of_mem_drop hc)
  have : c = 40 := by
    unfold low at h40
    split at h40 <;> omega
  exact hp (this ▸ hcq)
local macro_rules | `(tactic| walk_at "exec Assign") => `(tactic| (exfalso; exact trailer_absurd (by assumption) (by assumption)))
local macro_rules | `(tactic| walk_at "call ref") => `(tactic| (k_here; (with_reducible show wpAny _ _ (call (Value.ref 26) _) _ _ _); (first | (k_dflt (refine' Says.useS (lower_text_ _ _ _ _ (by walk_at "my side") (ascii_mkS (by assumption))) ?k1 ?k2 ?k3 ?k4 ?k5 ?k6 ?k7 ?k8 ?_; (case k1 => k_asm); (case k2 => k_asm); (case k3 => k_asm); (case k4 => k_asm); (case k5 => k_asm); (case k6 => first | exact rfl | assumption); (case k7 => ktr_room); (case k8 => ktr_units)))); intro _ _ _ _ _; (try dsimp only)))
set_option maxRecDepth 100000 in
set_option maxHeartbeats 8000000 in
theorem without_trailers_ (w : World) (l : List Nat) (tx : Tok) (news : Led) (hx : l.length ≤ 100000) (ha : ∀ c ∈ l, c < 128) (hp : 40 ∉ l) :
    Says w 60 3 [.str (mkS l) tx] news (OutP (rstr l) false) := by
  w_on
  unfold Says PG
  k_fill
  intro dp un gd cn cs a ccd cl outer A₀ base h₀ L m mean mg mb s Q E B F X N T hk hdp hu hret
  refine wpAny_call ?_
  k_dflt cell_enter
  walk_at "my steps"
  refine ksw_while (fun _ => news) (fun c : (List Nat × Tok) × Bool => [(Str.ofString "text", .str (mkS c.1.1) c.1.2), (Str.ofString "is_cut", .bool c.2)]) (fun _ => True) [] (fun c => c.1.1 = l ∧ c.2 = false) (fun c => 0) ((l, tx), false) (by assumption) (by assumption) trivial (by kst_all) ⟨rfl, rfl⟩ ?_
  rintro ⟨⟨q, tq⟩, b⟩ u h tkk - ⟨hq1, hq2⟩ Fk Nk
  dsimp only at hq1 hq2
  subst hq1 hq2
  dsimp only [kstB] at Fk Nk
  have hr1 : (rstr q).length ≤ 100000 := Nat.le_trans (rstr_le q) hx
  have hr2 : ∀ d ∈ rstr q, d < 128 := fun d hd => ha d (List.mem_of_mem_take hd)
  have hr3 : ((rstr q).drop ((rstr q).length - 5)).length ≤ 100000 := by rw [List.length_drop]; omega
  have hr4 : ∀ d ∈ (rstr q).drop ((rstr q).length - 5), d < 128 := fun d hd => hr2 d (List.mem_of_mem_drop hd)
  walk_at "my steps"
  refine endP hret (by assumption) (by assumption) (by walk_at "my in") (List.mem_cons_self ..) rfl
end Mine
end
section
open PySem PySem.W PySem.Calls PyProof.Rows
set_option Elab.async false
namespace Mine
local macro_rules | `(tactic| walk_at "pad") => `(tactic| skip)
local macro_rules | `(tactic| walk_at "my steps") => `(tactic| repeat' ((fail_if_success (with_reducible show wpAny _ _ (exec (Stmt.While _ _ _ _) _) _ _ _)); (fail_if_success (with_reducible show wpAny _ _ (exec (Stmt.For _ _ _ _ _) _) _ _ _)); (fail_if_success (with_reducible show wpAny _ _ (pyIter _) _ _ _)); first | (k_unfold; (try dsimp only)) | (k_end; wrow_close) | walk1 | (dsimp only; walk1) | (leave1; walk_say "STEP leave1"; try dsimp only) | fail "no step"))
local macro_rules | `(tactic| walk_at "my in") => `(tactic| (intro p hp; first | exact hp | exact List.mem_append.mpr (.inl hp) | exact List.mem_append.mpr (.inr hp) | exact List.mem_cons_of_mem _ hp | exact List.mem_cons_of_mem _ (List.mem_cons_of_mem _ hp) | exact List.mem_cons_of_mem _ (List.mem_cons_of_mem _ (List.mem_cons_of_mem _ hp))))
local macro_rules | `(tactic| walk_at "my side") => `(tactic| first | assumption | omega | (rw [length_mkS]; omega))
local macro_rules | `(tactic| walk_at "my size") => `(tactic| first | assumption | (rw [length_mkS]; assumption) | (rw [length_mkS]; omega))
local macro_rules | `(tactic| walk_at "call builtin:len") => `(tactic| ((show wpAny _ _ (call (Value.builtin "len") [Value.str (mkS _) _]) _ _ _); (refine len_ (by walk_at "my size") ?_)))
local macro_rules | `(tactic| walk_at "call builtin:str.lstrip") => `(tactic| ((show wpAny _ _ (call (Value.builtin "str.lstrip") [Value.str (mkS _) _, Value.str _ _]) _ _ _); (refine lstrip_ (by decide) (by walk_at "my size") ?_); intro _ _))
local macro_rules | `(tactic| walk_at "call builtin:str.rstrip") => `(tactic| ((show wpAny _ _ (call (Value.builtin "str.rstrip") [Value.str (mkS _) _, Value.str _ _]) _ _ _); (refine rstrip_ (by decide) (by walk_at "my size") ?_); intro _ _))
local macro_rules | `(tactic| walk_at "subscriptTail Name Slice str ref") => `(tactic| ((with_reducible show wpAny _ _ (subscriptTail _ (Expr.Slice (some _) none none _) (Value.str (mkS _) _) _) _ _ _); (with_reducible rename Fr _ _ _ _ => F'); (with_reducible rename News _ _ _ _ => N'); (refine slice_sn_ (s := ⟨_, _, _, _, _⟩) F' N' (by walk_at "my size") ?_); intro _ _ _ _ _))
local macro_rules | `(tactic| walk_at "subscriptTail Name Slice str ref") => `(tactic| ((with_reducible show wpAny _ _ (subscriptTail _ (Expr.Slice none (some _) none _) (Value.str (mkS _) _) _) _ _ _); (with_reducible rename Fr _ _ _ _ => F'); (with_reducible rename News _ _ _ _ => N'); (refine slice_ns_ (s := ⟨_, _, _, _, _⟩) F' N' (by walk_at "my size") ?_); intro _ _ _ _ _))
local macro_rules | `(tactic| walk_at "subscriptTail Name Slice str ref") => `(tactic| ((with_reducible show wpAny _ _ (subscriptTail _ (Expr.Slice (some (Expr.UnaryOp _ _ _)) none none _) (Value.str (mkS _) _) _) _ _ _); (with_reducible rename Fr _ _ _ _ => F'); (with_reducible rename News _ _ _ _ => N'); (first | (refine slice_neg_ (s := ⟨_, _, _, _, _⟩) 5 (by decide) (by decide) F' N' (by walk_at "my size") ?_) | (refine slice_neg_ (s := ⟨_, _, _, _, _⟩) 1 (by decide) (by decide) F' N' (by walk_at "my size") ?_)); intro _ _ _ _ _))
local macro_rules | `(tactic| walk_at "eval ListComp") => `(tactic| (k_here; (with_reducible show wpAny _ _ (eval (Expr.ListComp _ [⟨Expr.Name _ _, Expr.Name _ _, [], _⟩] _ _) _) _ _ _); k_dflt (refine ListComp_text (F₀ := by k_asm) (by with_unfolding_all rfl) (by decide) (by rfl) (by decide) (by rfl) ?_)))
local macro_rules | `(tactic| walk_at "eval ListComp") => `(tactic| (k_here; (with_reducible show wpAny _ _ (eval (Expr.ListComp _ [⟨Expr.Name _ _, _, [_], _⟩] _ _) _) _ _ _); k_dflt (refine LCt.ListComp_T (F₀ := by k_asm) (by with_unfolding_all rfl) (by decide) (by rfl) (by decide) (by rfl) ?_)))
local macro_rules | `(tactic| walk_at "call builtin:str.split") => `(tactic| (k_here; (show wpAny _ _ (call (Value.builtin "str.split") [Value.str (mkS _) _, Value.str _ _]) _ _ _); (refine KSpl.split1 (by k_asm) (by k_asm) (by decide) ?_ (by rw [sizeLine_eq, length_mkS]; omega)); intro _ _ _ _ _ _ _ _ _))
theorem splitB_len (l : List Nat) : (splitB l).length ≤ l.length + 1 := by
  induction l with
  | nil => exact Nat.le_refl _
  | cons c r ih =>
    simp only [splitB]
    split
    · simp only [List.length_cons]; omega
    · split
      · rename_i h; rw [h] at ih; simp only [List.length_cons] at ih ⊢; omega
      · simp
theorem ne_empty {y : Str} {b : Bool} (h : (y != Str.ofString "") = b) : (!y.cps.toList.isEmpty) = b := by
  rw [show Str.ofString "" = mkS [] by decide, ← mkS_cps y] at h
  have e : (mkS y.cps.toList != mkS []) = !(y.cps.toList == []) := by rw [← eq_mkS]; rfl
  rw [e] at h
  rw [← h]
  cases y.cps.toList <;> rfl
theorem kept_words (l : List Nat) : ((splitB l).map mkS).filter (fun y => !y.cps.toList.isEmpty) = (wordsB l).map mkS := by
  rw [List.filter_map]; rfl
theorem words_weight (l : List Nat) : ((wordsB l).map List.length).sum + (wordsB l).length ≤ l.length + 1 := by
  have h1 : ((splitB l).map List.length).sum + (splitB l).length = l.length + 1 := by
    induction l with
    | nil => rfl
    | cons c r ih =>
      simp only [splitB]
      split
      · simp only [List.map_cons, List.sum_cons, List.length_cons, List.length_nil]; omega
      · split
        · rename_i h; rw [h] at ih; simp only [List.map_cons, List.sum_cons, List.length_cons] at ih ⊢; omega
        · rename_i h; exact absurd h (splitB_ne r)
  have h2 : ∀ ps : List (List Nat), ((ps.filter fun p => !p.isEmpty).map List.length).sum + (ps.filter fun p => !p.isEmpty).length ≤ (ps.map List.length).sum + ps.length := by
    intro ps
    induction ps with
    | nil => exact Nat.le_refl _
    | cons p ps ih =>
      rw [List.filter_cons]
      split
      · simp only [List.map_cons, List.sum_cons, List.length_cons]; omega
      · simp only [List.map_cons, List.sum_cons, List.length_cons]; omega
  have := h2 (splitB l)
  unfold wordsB; omega
theorem white_absurd {c : Nat} {l : List Nat} (hl : ∀ c ∈ l, c ≠ 9 ∧ c ≠ 10 ∧ c ≠ 13) (hc : c ∈ (mkS l).cps.toList) (h : (Builtin.Str.occurrences (Str.ofString "\t\x0d\n") ⟨#[c]⟩ 0 (Str.ofString "\t\x0d\n").length 1).isEmpty = false) : False := by
  have h1 : (!(Builtin.Str.occurrences (Str.ofString "\t\x0d\n") ⟨#[c]⟩ 0 (Str.ofString "\t\x0d\n").length 1).isEmpty) = true := by rw [h]; rfl
  rw [StrLaws.found_one, decide_eq_true_eq, show (Str.ofString "\t\x0d\n").cps.toList = [9, 13, 10] by decide] at h1
  have := hl c hc
  simp at h1
  omega
set_option maxRecDepth 100000 in
set_option maxHeartbeats 8000000 in
theorem one_blanks_ (w : World) (l : List Nat) (tx : Tok) (news : Led) (hx : l.length ≤ 100000) (ha : ∀ c ∈ l, c < 128) (hw : ∀ c ∈ l, c ≠ 9 ∧ c ≠ 10 ∧ c ≠ 13) :
    Says w 32 2 [.str (mkS l) tx] news (OutS (sqz l)) := by
  w_on
  unfold Says PG
  k_fill
  intro dp un gd cn cs a ccd cl outer A₀ base h₀ L m mean mg mb s Q E B F X N T hk hdp hu hret
  refine wpAny_call ?_
  k_dflt cell_enter
  walk_at "my steps"
  refine ⟨_, _, _, rfl, rfl, by assumption, by assumption, ascii_mkS ha, ?_, ?_⟩
  · rw [sizeLine_eq]; have := length_mkS l; have e : (mkS l).length = (mkS l).cps.size := rfl; omega
  rintro _ ⟨g, rfl⟩
  refine text_rest (fun c => mkS [c]) ?_ ?_
  · intro c t I oI C oC D m₂ ys h tk E' hc hC hx F N off ne
    walk_at "my steps"
    · exact LCg.CompEnd.intro (by assumption) (by assumption) _ (fun p hp => hp) off trivial ⟨rfl, _, rfl⟩
    · exact (white_absurd hw hc (by assumption)).elim
  · intro ys hy
    intro D h tk F' N' o1
    walk_at "my steps"
    refine join_listW (ys := (mkS l).cps.toList.map fun c => mkS [c]) (News.isList N' (List.mem_cons_self ..)) hy (by decide) ?_ ?_
    · have := sum_one id l
      dsimp only [id] at this
      rw [cps_mkS, this, List.length_map]; omega
    intro t' k
    have e : Txt.join (Str.ofString "") ((mkS l).cps.toList.map fun c => mkS [c]) = mkS l := by
      have := join_nil (sep := Str.ofString "") rfl (l.map fun c => [id c])
      rw [flat_one, List.map_map, List.map_id] at this
      exact this
    rw [e]
    walk_at "my steps"
    rename (List.map _ _ = Txt.split _ _) => hsp
    rename (StrsAre _ _) => hst
    rw [show Str.ofString " " = mkS [32] by decide, split_B] at hsp
    rw [hsp] at hst
    refine LCt.CompSrcT.ledger (by rfl) (by k_asm) (by k_asm) (List.mem_cons_self ..) ?_ ?_
    · have := hst.len_eq
      rw [sizeLine_eq, List.size_toArray, this, List.length_map]
      have := splitB_len l
      omega
    intro g
    refine strs_rest hst (fun y => !y.cps.toList.isEmpty) ?_ ?_
    · intro y t I oI C oC D m₂ ys h tk E' hc hC hx F N off ne
      walk_at "my steps"
      · exact LCg.CompEnd.intro (by assumption) (by assumption) _ (fun p hp => hp) off (.inr ⟨_, List.mem_cons_self .., rfl, _, rfl⟩) ⟨ne_empty (by assumption), rfl, _, rfl⟩
      · exact LCg.CompEnd.intro (by assumption) (by assumption) _ (fun p hp => hp) off (.inr ⟨_, List.mem_cons_self .., rfl, _, rfl⟩) ⟨ne_empty (by assumption), rfl⟩
    · intro ys hy
      intro D h tk F' N' o1
      walk_at "my steps"
      rw [kept_words] at hy
      refine join_listW (News.isList N' (List.mem_cons_self ..)) hy (by decide) ?_ ?_
      · have := words_weight l
        rw [List.map_map, List.length_map]
        have e : ((fun s : Str => s.length) ∘ mkS) = List.length := by funext p; exact length_mkS p
        rw [e]; omega
      intro t' k
      rw [show Str.ofString " " = mkS [32] by decide, join_B]
      walk_at "my steps"
      refine endS hret (by assumption) (by assumption) (by walk_at "my in") rfl
end Mine
end
section
open PySem PySem.W PySem.Calls PyProof.Rows
set_option Elab.async false
namespace Mine
local macro_rules | `(tactic| walk_at "my steps") => `(tactic| repeat' ((fail_if_success (with_reducible show wpAny _ _ (exec (Stmt.While _ _ _ _) _) _ _ _)); (fail_if_success (with_reducible show wpAny _ _ (exec (Stmt.For _ _ _ _ _) _) _ _ _)); (fail_if_success (with_reducible show wpAny _ _ (pyIter _) _ _ _)); first | (k_unfold; (try dsimp only)) | (k_end; wrow_close) | walk1 | (dsimp only; walk1) | (leave1; walk_say "STEP leave1"; try dsimp only) | fail "no step"))
local macro_rules | `(tactic| walk_at "my in") => `(tactic| (intro p hp; first | exact hp | exact List.mem_append.mpr (.inl hp) | exact List.mem_append.mpr (.inr hp) | exact List.mem_cons_of_mem _ hp | exact List.mem_cons_of_mem _ (List.mem_cons_of_mem _ hp) | exact List.mem_cons_of_mem _ (List.mem_cons_of_mem _ (List.mem_cons_of_mem _ hp))))
local macro_rules | `(tactic| walk_at "my side") => `(tactic| first | assumption | omega | (rw [length_mkS]; omega))
local macro_rules | `(tactic| walk_at "my size") => `(tactic| first | assumption | (rw [length_mkS]; assumption) | (rw [length_mkS]; omega))
local macro_rules | `(tactic| walk_at "call builtin:len") => `(tactic| ((show wpAny _ _ (call (Value.builtin "len") [Value.str (mkS _) _]) _ _ _); (refine len_ (by walk_at "my size") ?_)))
local macro_rules | `(tactic| walk_at "call builtin:str.lstrip") => `(tactic| ((show wpAny _ _ (call (Value.builtin "str.lstrip") [Value.str (mkS _) _, Value.str _ _]) _ _ _); (refine lstrip_ (by decide) (by walk_at "my size") ?_); intro _ _))
local macro_rules | `(tactic| walk_at "call builtin:str.rstrip") => `(tactic| ((show wpAny _ _ (call (Value.builtin "str.rstrip") [Value.str (mkS _) _, Value.str _ _]) _ _ _); (refine rstrip_ (by decide) (by walk_at "my size") ?_); intro _ _))
local macro_rules | `(tactic| walk_at "subscriptTail Name Slice str ref") => `(tactic| ((with_reducible show wpAny _ _ (subscriptTail _ (Expr.Slice (some _) none none _) (Value.str (mkS _) _) _) _ _ _); (with_reducible rename Fr _ _ _ _ => F'); (with_reducible rename News _ _ _ _ => N'); (refine slice_sn_ (s := ⟨_, _, _, _, _⟩) F' N' (by walk_at "my size") ?_); intro _ _ _ _ _))
local macro_rules | `(tactic| walk_at "subscriptTail Name Slice str ref") => `(tactic| ((with_reducible show wpAny _ _ (subscriptTail _ (Expr.Slice none (some _) none _) (Value.str (mkS _) _) _) _ _ _); (with_reducible rename Fr _ _ _ _ => F'); (with_reducible rename News _ _ _ _ => N'); (refine slice_ns_ (s := ⟨_, _, _, _, _⟩) F' N' (by walk_at "my size") ?_); intro _ _ _ _ _))
local macro_rules | `(tactic| walk_at "subscriptTail Name Slice str ref") => `(tactic| ((with_reducible show wpAny _ _ (subscriptTail _ (Expr.Slice (some (Expr.UnaryOp _ _ _)) none none _) (Value.str (mkS _) _) _) _ _ _); (with_reducible rename Fr _ _ _ _ => F'); (with_reducible rename News _ _ _ _ => N'); (first | (refine slice_neg_ (s := ⟨_, _, _, _, _⟩) 5 (by decide) (by decide) F' N' (by walk_at "my size") ?_) | (refine slice_neg_ (s := ⟨_, _, _, _, _⟩) 1 (by decide) (by decide) F' N' (by walk_at "my size") ?_)); intro _ _ _ _ _))
theorem fwd_absurd {r0 : List Nat} (h1 : (r0.take 5).map low ≠ [91, 102, 119, 100, 58]) (h2 : (mkS (List.map low (mkS (r0.take 5)).cps.toList) != Str.ofString "[fwd:") = false) : False := by
  rw [cps_mkS] at h2
  have : (mkS ((r0.take 5).map low) == Str.ofString "[fwd:") = true := by simpa [bne] using h2
  rw [show Str.ofString "[fwd:" = mkS [91, 102, 119, 100, 58] by decide, eq_mkS] at this
  exact h1 (eq_of_beq this)
local macro_rules | `(tactic| walk_at "isTrue BoolOp") => `(tactic| (exfalso; exact fwd_absurd (by assumption) (by assumption)))
local macro_rules | `(tactic| walk_at "isTrue Compare") => `(tactic| (exfalso; exact fwd_absurd (by assumption) (by assumption)))
theorem without_trailers_r (w : World) (l r0 : List Nat) (tx : Tok) (news : Led) (hx : l.length ≤ 100000) (ha : ∀ c ∈ l, c < 128) (hp : 40 ∉ l) (hr : rstr l = r0) :
    Says w 60 3 [.str (mkS l) tx] news (OutP r0 false) := hr ▸ without_trailers_ w l tx news hx ha hp
theorem without_leaders_b (w : World) (l : List Nat) (tx : Tok) (news : Led) (hx : l.length ≤ 100000) (ha : ∀ c ∈ l, c < 128) (hb : wl l false = (l, false)) :
    Says w 67 4 [.str (mkS l) tx] news (OutP l false) := by
  have := without_leaders_ w l tx news hx ha
  rw [hb] at this
  exact this
local macro_rules | `(tactic| walk_at "call ref") => `(tactic| (k_here; (with_reducible show wpAny _ _ (call (Value.ref 26) _) _ _ _); (first | (k_dflt (refine' Says.useS (lower_text_ _ _ _ _ (by walk_at "my side") (ascii_mkS (by assumption))) ?k1 ?k2 ?k3 ?k4 ?k5 ?k6 ?k7 ?k8 ?_; (case k1 => k_asm); (case k2 => k_asm); (case k3 => k_asm); (case k4 => k_asm); (case k5 => k_asm); (case k6 => first | exact rfl | assumption); (case k7 => ktr_room); (case k8 => ktr_units)))); intro _ _ _ _ _; (try dsimp only)))
local macro_rules | `(tactic| walk_at "call ref") => `(tactic| (k_here; (with_reducible show wpAny _ _ (call (Value.ref 32) _) _ _ _); (first | (k_dflt (refine' Says.useS (one_blanks_ _ _ _ _ (by walk_at "my side") (by assumption) (by assumption)) ?k1 ?k2 ?k3 ?k4 ?k5 ?k6 ?k7 ?k8 ?_; (case k1 => k_asm); (case k2 => k_asm); (case k3 => k_asm); (case k4 => k_asm); (case k5 => k_asm); (case k6 => first | exact rfl | assumption); (case k7 => ktr_room); (case k8 => ktr_units)))); intro _ _ _ _ _; (try dsimp only)))
local macro_rules | `(tactic| walk_at "call ref") => `(tactic| (k_here; (with_reducible show wpAny _ _ (call (Value.ref 60) _) _ _ _); (first | (k_dflt (refine' Says.useP (z := (_, false)) (without_trailers_r _ _ _ _ _ (by walk_at "my side") (by assumption) (by assumption) (by assumption)) ?k1 ?k2 ?k3 ?k4 ?k5 ?k6 ?k7 ?k8 ?_; (case k1 => k_asm); (case k2 => k_asm); (case k3 => k_asm); (case k4 => k_asm); (case k5 => k_asm); (case k6 => first | exact rfl | assumption); (case k7 => ktr_room); (case k8 => ktr_units)))); intro _ _ _ _ _ _; (try dsimp only)))
local macro_rules | `(tactic| walk_at "call ref") => `(tactic| (k_here; (with_reducible show wpAny _ _ (call (Value.ref 67) _) _ _ _); (first | (k_dflt (refine' Says.useP (z := (_, false)) (without_leaders_b _ _ _ _ (by walk_at "my side") (by assumption) (by assumption)) ?k1 ?k2 ?k3 ?k4 ?k5 ?k6 ?k7 ?k8 ?_; (case k1 => k_asm); (case k2 => k_asm); (case k3 => k_asm); (case k4 => k_asm); (case k5 => k_asm); (case k6 => first | exact rfl | assumption); (case k7 => ktr_room); (case k8 => ktr_units)))); intro _ _ _ _ _ _; (try dsimp only)))
set_option maxRecDepth 100000 in
set_option maxHeartbeats 8000000 in
theorem base_subject_ (w : World) (l r0 : List Nat) (tx : Tok) (news : Led) (hx : l.length ≤ 100000) (ha : ∀ c ∈ l, c < 128) (hw : ∀ c ∈ l, c ≠ 9 ∧ c ≠ 10 ∧ c ≠ 13)
    (hs1 : (sqz l).length ≤ 100000) (hs2 : ∀ c ∈ sqz l, c < 128) (hs3 : 40 ∉ sqz l) (hr : rstr (sqz l) = r0) (hr1 : r0.length ≤ 100000) (hr2 : ∀ c ∈ r0, c < 128) (hb : wl r0 false = (r0, false))
    (hnf : (r0.take 5).map low ≠ [91, 102, 119, 100, 58]) :
    Says w 74 5 [.str (mkS l) tx] news (OutP r0 false) := by
  w_on
  unfold Says PG
  k_fill
  intro dp un gd cn cs a ccd cl outer A₀ base h₀ L m mean mg mb s Q E B F X N T hk hdp hu hret
  refine wpAny_call ?_
  k_dflt cell_enter
  walk_at "my steps"
  refine ksw_while (fun _ => news) (fun c : (List Nat × Tok) × Bool => [(Str.ofString "rest", .str (mkS c.1.1) c.1.2), (Str.ofString "is_reply", .bool c.2)]) (fun _ => True) [] (fun c => c.1.1 = sqz l ∧ c.2 = false) (fun c => 0) ((sqz l, _), false) (by assumption) (by assumption) trivial (by kst_all) ⟨rfl, rfl⟩ ?_
  rintro ⟨⟨q, tq⟩, b⟩ u h tkk - ⟨hq1, hq2⟩ Fk Nk
  dsimp only at hq1 hq2
  subst hq1 hq2
  dsimp only [kstB] at Fk Nk
  have hf1 : (r0.take 5).length ≤ 100000 := by rw [List.length_take]; omega
  have hf2 : ∀ c ∈ r0.take 5, c < 128 := fun c hc => hr2 c (List.mem_of_mem_take hc)
  walk_at "my steps"
  refine endP hret (by assumption) (by assumption) (by walk_at "my in") (List.mem_cons_self ..) rfl
end Mine
end
section
open PySem PySem.W PySem.Calls PyProof.Rows
set_option Elab.async false
namespace Mine
local macro_rules | `(tactic| walk_at "my steps") => `(tactic| repeat' ((fail_if_success (with_reducible show wpAny _ _ (exec (Stmt.While _ _ _ _) _) _ _ _)); (fail_if_success (with_reducible show wpAny _ _ (exec (Stmt.For _ _ _ _ _) _) _ _ _)); (fail_if_success (with_reducible show wpAny _ _ (pyIter _) _ _ _)); first | (k_unfold; (try dsimp only)) | (k_end; wrow_close) | walk1 | (dsimp only; walk1) | (leave1; walk_say "STEP leave1"; try dsimp only) | fail "no step"))
local macro_rules | `(tactic| walk_at "my in") => `(tactic| (intro p hp; first | exact hp | exact List.mem_append.mpr (.inl hp) | exact List.mem_append.mpr (.inr hp) | exact List.mem_cons_of_mem _ hp | exact List.mem_cons_of_mem _ (List.mem_cons_of_mem _ hp) | exact List.mem_cons_of_mem _ (List.mem_cons_of_mem _ (List.mem_cons_of_mem _ hp))))
local macro_rules | `(tactic| walk_at "my side") => `(tactic| first | assumption | omega | (rw [length_mkS]; omega))
theorem item_sign {x : Str} {k c : Nat} (h : x.cps.toList[k]? = some c) : Txt.item x (k : Int) = ⟨#[c]⟩ := by
  have e : Txt.charAt x (k : Int) = some c := StrLaws.at_nonneg (by omega) (by simpa using h)
  unfold Txt.item; rw [e]; rfl
theorem bracket_yes {x : Str} {k : Nat} (hk : k < x.length) (h : (Builtin.Str.occurrences (Str.ofString "[]") (Txt.item x (k : Int)) 0 (Str.ofString "[]").length 1).isEmpty = false) : x.cps.toList[k]? = some 91 ∨ x.cps.toList[k]? = some 93 := by
  obtain ⟨c, hc⟩ : ∃ c, x.cps.toList[k]? = some c := ⟨_, List.getElem?_eq_getElem (by rw [len_toList]; exact hk)⟩
  rw [item_sign hc] at h
  have h1 : (!(Builtin.Str.occurrences (Str.ofString "[]") ⟨#[c]⟩ 0 (Str.ofString "[]").length 1).isEmpty) = true := by rw [h]; rfl
  rw [StrLaws.found_one, decide_eq_true_eq, show (Str.ofString "[]").cps.toList = [91, 93] by decide] at h1
  rw [hc]
  simpa using h1
theorem bracket_no {x : Str} {k : Nat} (hk : k < x.length) (h : (Builtin.Str.occurrences (Str.ofString "[]") (Txt.item x (k : Int)) 0 (Str.ofString "[]").length 1).isEmpty = true) : x.cps.toList[k]? ≠ some 93 ∧ x.cps.toList[k]? ≠ some 91 := by
  obtain ⟨c, hc⟩ : ∃ c, x.cps.toList[k]? = some c := ⟨_, List.getElem?_eq_getElem (by rw [len_toList]; exact hk)⟩
  rw [item_sign hc] at h
  have h1 : ¬ (!(Builtin.Str.occurrences (Str.ofString "[]") ⟨#[c]⟩ 0 (Str.ofString "[]").length 1).isEmpty) = true := by rw [h]; simp
  rw [StrLaws.found_one, decide_eq_true_eq, show (Str.ofString "[]").cps.toList = [91, 93] by decide] at h1
  rw [hc]
  simp at h1
  simp [h1]
theorem take1_some {l : List Nat} {k c : Nat} (h : (l.drop k).take 1 = [c]) : l[k]? = some c := by
  have := (drop_yes h).2
  rw [show l[k]? = (l.drop k)[0]? by rw [List.getElem?_drop]; rfl, this]; rfl
theorem some_take1 {l : List Nat} {k c : Nat} (h : l[k]? = some c) : (l.drop k).take 1 = [c] := by
  obtain ⟨hk, e⟩ := List.getElem?_eq_some_iff.mp h
  rw [List.drop_eq_getElem_cons hk, e]; rfl
set_option maxRecDepth 100000 in
set_option maxHeartbeats 8000000 in
theorem law_after_blob_ (w : World) (x : Str) (tx : Tok) (i : Nat) (ti : Tok) (news : Led) (hx : x.length ≤ 100000) (hi : i ≤ x.length) :
    Says w 100 1 [.str x tx, .int i ti] news (OutI (i + blob (x.cps.toList.drop i) : Nat)) := by
  w_on
  unfold Says PG
  k_fill
  intro dp un gd cn cs a ccd cl outer A₀ base h₀ L m mean mg mb s Q E B F X N T hk hdp hu hret
  refine wpAny_call ?_
  k_dflt cell_enter
  walk_at "my steps"
  · refine endI hret (by assumption) (by assumption) (by walk_at "my in") ?_
    rw [blob_no (one_ne_no 91 (by assumption) (by decide))]; rfl
  have h91 : (x.cps.toList.drop i).take 1 = [91] := one_ne_yes 91 (by assumption) (by decide)
  have hi1 : i < x.length := by have := (drop_yes h91).1; rw [len_toList] at this; exact this
  have h91' := take1_some h91
  refine ksw_while (fun _ => news) (fun c : Nat × Tok => [(Str.ofString "end", .int (c.1 : Nat) c.2)]) (fun _ => True) [] (fun c => i + 1 ≤ c.1 ∧ c.1 ≤ x.length ∧ ∀ p, i + 1 ≤ p → p < c.1 → x.cps.toList[p]? ≠ some 93 ∧ x.cps.toList[p]? ≠ some 91) (fun c => x.length - c.1) (i + 1, _) (by assumption) (by assumption) trivial (by kst_all) ⟨Nat.le_refl _, hi1, fun p h1 h2 => absurd h1 (Nat.not_le.mpr h2)⟩ ?_
  rintro ⟨k, tk⟩ u h tkk - ⟨hk1, hk2, hk3⟩ Fk Nk
  dsimp only at hk1 hk2 hk3
  dsimp only [kstB] at Fk Nk
  walk_at "my steps"
  · have hb := bracket_no (x := x) (k := k) (by omega) (by assumption)
    refine ksw_end (k + 1, _) (by assumption) (by assumption) (fun p hp => hp) trivial (by kst_all) (by ksw_same) ⟨?_, ?_, ?_⟩ ?_
    · show i + 1 ≤ k + 1; omega
    · show k + 1 ≤ x.length; omega
    · intro p h1 h2
      rcases Nat.lt_succ_iff_lt_or_eq.mp h2 with h3 | h3
      · exact hk3 p h1 h3
      · subst h3; exact hb
    · show x.length - (k + 1) < x.length - k; omega
  · have hb := bracket_yes (x := x) (k := k) (by omega) (by assumption)
    have hn := one_ne_no (x := x) (k := k) 93 (by assumption) (by decide)
    have h1 : x.cps.toList[k]? = some 91 := hb.resolve_right fun h => hn (some_take1 h)
    refine endI hret (by assumption) (by assumption) (by walk_at "my in") ?_
    rw [blob_none2 (k := k + 1) (p := k) h91 (fun q h2 h3 => ?_) hk1 (by omega) h1]; rfl
    rcases Nat.lt_succ_iff_lt_or_eq.mp h3 with h4 | h4
    · rcases Nat.lt_or_eq_of_le h2 with h5 | h5
      · exact (hk3 q h5 h4).1
      · subst h5; rw [h91']; simp
    · subst h4; rw [h1]; simp
  · have h93 := one_ne_yes (x := x) (k := k) 93 (by assumption) (by decide)
    have hbl : i + blob (x.cps.toList.drop i) = k + 1 + blanks (x.cps.toList.drop (k + 1)) := blob_some h91 (by omega) (take1_some h93) (fun q h2 h3 => by
      rcases Nat.lt_or_eq_of_le h2 with h5 | h5
      · exact (hk3 q h5 h3).1
      · subst h5; rw [h91']; simp) (fun q h2 h3 => (hk3 q h2 h3).2)
    refine ksw_while (fun _ => news) (fun c : Nat × Tok => [(Str.ofString "end", .int (c.1 : Nat) c.2)]) (fun _ => True) [] (fun c => c.1 ≤ x.length ∧ c.1 + blanks (x.cps.toList.drop c.1) = i + blob (x.cps.toList.drop i)) (fun c => x.length - c.1) (k + 1, _) (by assumption) (by assumption) trivial (by kst_all) ⟨by show k + 1 ≤ x.length; omega, hbl.symm⟩ ?_
    rintro ⟨j, tj⟩ u2 h2 tkk2 - ⟨hj1, hj2⟩ Fj Nj
    dsimp only at hj1 hj2
    dsimp only [kstB] at Fj Nj
    walk_at "my steps"
    · have hb := blanks_yes (one_yes (x := x) (k := j) 32 (by assumption) (by decide))
      rw [len_toList] at hb
      refine ksw_end (j + 1, _) (by assumption) (by assumption) (fun p hp => hp) trivial (by kst_all) (by ksw_same) ⟨?_, ?_⟩ ?_
      · show j + 1 ≤ x.length; omega
      · show j + 1 + blanks (x.cps.toList.drop (j + 1)) = _; omega
      · show x.length - (j + 1) < x.length - j; omega
    · have hb := blanks_no (one_no (x := x) (k := j) 32 (by assumption) (by decide))
      refine endI hret (by assumption) (by assumption) (by walk_at "my in") ?_
      rw [← hj2, hb]; rfl
  · refine endI hret (by assumption) (by assumption) (by walk_at "my in") ?_
    rw [blob_none1 h91 (fun p h1 h2 => ?_)]; rfl
    have h3 := lt_of_some h2
    rcases Nat.lt_or_eq_of_le h1 with h5 | h5
    · exact (hk3 p h5 (by omega)).1 h2
    · subst h5; rw [h91'] at h2; simp at h2
  · exfalso
    have h93 := drop_yes (one_ne_yes (x := x) (k := k) 93 (by assumption) (by decide))
    rw [len_toList] at h93
    omega
end Mine
end
section
/-! the plain law, second part -/
namespace Mine
/-- read as blanks, blobs and leaders; n: the leaders -/
inductive Reads : List Nat → Nat → Prop
  | nil : Reads [] 0
  | lead {l : List Nat} {n : Nat} : 0 < lead l → Reads (l.drop (lead l)) n → Reads l (n + 1)
  | blank {r : List Nat} {n : Nat} : Reads r n → Reads (32 :: r) n
  | blob {l : List Nat} {n : Nat} : 0 < blob l → Reads (l.drop (blob l)) n → Reads l n
theorem word_le_len (w L : List Nat) : word w L ≤ L.length := by
  unfold word
  split
  · dsimp only
    split
    · rename_i h1 h2
      have h3 := (drop_yes h2).1
      omega
    · omega
  · omega
theorem lead_le_len (L : List Nat) : lead L ≤ L.length := by
  unfold lead
  have h1 := word_le_len wRe L
  have h2 := word_le_len wFwd L
  have h3 := word_le_len wFw L
  split
  · exact h1
  · split
    · exact h2
    · exact h3
theorem lead_head {L : List Nat} (h : 0 < lead L) : ∃ d L', L = d :: L' ∧ (low d = 114 ∨ low d = 102) := by
  unfold lead at h
  split at h
  · rename_i h1
    obtain ⟨d, L', e, hd⟩ := head_low (word_pos h1) (c := 114) (r := [101]) rfl
    exact ⟨d, L', e, .inl hd⟩
  · split at h
    · rename_i h1 h2
      obtain ⟨d, L', e, hd⟩ := head_low (word_pos h2) (c := 102) (r := [119, 100]) rfl
      exact ⟨d, L', e, .inr hd⟩
    · obtain ⟨d, L', e, hd⟩ := head_low (word_pos h) (c := 102) (r := [119]) rfl
      exact ⟨d, L', e, .inr hd⟩
theorem blob_head {L : List Nat} (h : 0 < blob L) : ∃ r, L = 91 :: r := by
  cases L with
  | nil => simp [blob] at h
  | cons c r =>
    by_cases hc : c = 91
    · exact ⟨r, by rw [hc]⟩
    · simp [blob, hc] at h
theorem lead_blank (r : List Nat) : lead (32 :: r) = 0 := by
  apply Classical.byContradiction
  intro h
  obtain ⟨d, L', e, hd⟩ := lead_head (L := 32 :: r) (by omega)
  cases e
  simp [low] at hd
theorem lead_brack (r : List Nat) : lead (91 :: r) = 0 := by
  apply Classical.byContradiction
  intro h
  obtain ⟨d, L', e, hd⟩ := lead_head (L := 91 :: r) (by omega)
  cases e
  simp [low] at hd
theorem blob_blank (r : List Nat) : blob (32 :: r) = 0 := rfl
theorem reads_lead {l : List Nat} {m : Nat} (h : 0 < lead l) (R : Reads l m) : ∃ k, m = k + 1 ∧ Reads (l.drop (lead l)) k := by
  cases R with
  | nil => rw [lead_nil] at h; omega
  | lead h1 R => exact ⟨_, rfl, R⟩
  | blank R => rw [lead_blank] at h; omega
  | blob h1 R =>
    obtain ⟨r, e⟩ := blob_head h1
    subst e
    rw [lead_brack] at h; omega
theorem reads_blank {r : List Nat} {m : Nat} (R : Reads (32 :: r) m) : Reads r m := by
  cases R with
  | lead h1 R => rw [lead_blank] at h1; omega
  | blank R => exact R
  | blob h1 R => rw [blob_blank] at h1; omega
theorem reads_blob {l : List Nat} {m : Nat} (h : 0 < blob l) (R : Reads l m) : Reads (l.drop (blob l)) m := by
  obtain ⟨r, e⟩ := blob_head h
  subst e
  cases R with
  | lead h1 R => rw [lead_brack] at h1; omega
  | blob h1 R => exact R
theorem reads_stuck {l : List Nat} {m : Nat} (h0 : l ≠ []) (h1 : lead l = 0) (h2 : l.take 1 ≠ [32]) (h3 : blob l = 0) : ¬ Reads l m := by
  intro R
  cases R with
  | nil => exact h0 rfl
  | lead h R => omega
  | blank R => exact h2 rfl
  | blob h R => omega
theorem reads_nil {m : Nat} (R : Reads [] m) : m = 0 := by
  cases R with
  | nil => rfl
  | lead h R => rw [lead_nil] at h; omega
  | blob h R => simp [blob] at h
/-- no leader, no blob with more behind, no blank at the begin -/
def bare (l : List Nat) : Prop := blanks l = 0 ∧ lead (l.drop (blobs l)) = 0 ∧ (blob l = 0 ∨ blob l = l.length)
end Mine
end
section
open PySem PySem.W PySem.Calls PyProof.Rows
set_option Elab.async false
namespace Mine
local macro_rules | `(tactic| walk_at "my steps") => `(tactic| repeat' ((fail_if_success (with_reducible show wpAny _ _ (exec (Stmt.While _ _ _ _) _) _ _ _)); (fail_if_success (with_reducible show wpAny _ _ (exec (Stmt.For _ _ _ _ _) _) _ _ _)); (fail_if_success (with_reducible show wpAny _ _ (pyIter _) _ _ _)); (fail_if_success (with_reducible show wpAny _ _ (call (Value.builtin "str.join") _) _ _ _)); first | (k_unfold; (try dsimp only)) | (k_end; wrow_close) | walk1 | (dsimp only; walk1) | (leave1; walk_say "STEP leave1"; try dsimp only) | fail "no step"))
local macro_rules | `(tactic| walk_at "my in") => `(tactic| (intro p hp; first | exact hp | exact List.mem_append.mpr (.inl hp) | exact List.mem_append.mpr (.inr hp) | exact List.mem_cons_of_mem _ (List.mem_append.mpr (.inl hp)) | exact List.mem_cons_of_mem _ (List.mem_append.mpr (.inr hp)) | exact List.mem_cons_of_mem _ hp | exact List.mem_cons_of_mem _ (List.mem_cons_of_mem _ hp) | exact List.mem_cons_of_mem _ (List.mem_cons_of_mem _ (List.mem_cons_of_mem _ hp))))
local macro_rules | `(tactic| walk_at "my side") => `(tactic| first | assumption | omega | (rw [length_mkS]; omega))
local macro_rules | `(tactic| walk_at "eval ListComp") => `(tactic| (k_here; (with_reducible show wpAny _ _ (eval (Expr.ListComp _ [⟨Expr.Name _ _, _, [], _⟩] _ _) _) _ _ _); k_dflt (refine ListComp_text (F₀ := by k_asm) (by with_unfolding_all rfl) (by decide) (by rfl) (by decide) (by rfl) ?_)))
local macro_rules | `(tactic| walk_at "eval Dict") => `(tactic| (k_here; k_dflt (refine' kdn_str ?q ?F ?N ?b ?a ?l ?e ?n ?_; (case q => rfl); (case F => k_asm); (case N => k_asm); (case b => exact Top.nolimit (by k_asm)); (case a => rfl); (case l => rfl); (case e => exact List.cons_ne_nil _ _); (case n => exact Nat.le_of_ble_eq_true rfl)); intro _ _ _ _ _ _ _ _))
local macro_rules | `(tactic| walk_at "evalPairs") => `(tactic| first | refine pairTrees_cons_walk ?_ | refine pairTrees_nil_walk ?_)
local macro_rules | `(tactic| walk_at "KdnMade") => `(tactic| (k_here; k_dflt (refine' rom_made ?F ?N ?U ?lo ?d ?k ?n ?v ?e ?_; (case F => k_asm); (case N => k_asm); (case U => k_asm); (case lo => k_asm); (case d => k_asm); (case k => rfl); (case n => exact of_decide_eq_true (by first | rfl | kernel_rfl!)); (case v => rfl); (case e => rfl)); intro _ _ _ _ _))
local macro_rules | `(tactic| walk_at "getMethod ref") => `(tactic| (k_here; k_dflt (refine getMethod_strTab_get (by k_asm) ?_)))
local macro_rules | `(tactic| walk_at "call builtin:dict.get") => `(tactic| (k_here; k_dflt ((show wpAny _ _ (call (Value.builtin "dict.get") [Value.ref _, Value.str _ _, Value.str _ _]) _ _ _); (refine rom_get (by k_asm) ?_)); intro _))
theorem words3_low {i : Nat} {wl : List Nat} (h : [wFwd, wRe, wFw].getD i [] = wl) : ∀ t ∈ wl, t = 114 ∨ t = 101 ∨ t = 102 ∨ t = 119 ∨ t = 100 := by
  rcases i with _ | _ | _ | i
  · have : wl = wFwd := h.symm
    subst this; decide
  · have : wl = wRe := h.symm
    subst this; decide
  · have : wl = wFw := h.symm
    subst this; decide
  · have : wl = [] := h.symm
    subst this; simp
theorem words3' {i : Nat} {v : Value} {t1 t2 t3 : Tok} (h : [Value.str (Str.ofString "fwd") t1, Value.str (Str.ofString "re") t2, Value.str (Str.ofString "fw") t3][i]? = some v) :
    ∃ wl tw, v = .str (mkS wl) tw ∧ [wFwd, wRe, wFw].getD i [] = wl ∧ (mkS wl).length ≤ 3 ∧ i < 3 := by
  rcases i with _ | _ | _ | i
  · simp at h; exact ⟨wFwd, t1, h ▸ rfl, rfl, by decide, by omega⟩
  · simp at h; exact ⟨wRe, t2, h ▸ rfl, rfl, by decide, by omega⟩
  · simp at h; exact ⟨wFw, t3, h ▸ rfl, rfl, by decide, by omega⟩
  · simp at h
theorem lw_mk {w sl : List Nat} {b : Bool} (hw : ∀ t ∈ w, t = 114 ∨ t = 101 ∨ t = 102 ∨ t = 119 ∨ t = 100) (h : (mkS (sl.map lowR) == mkS w) = b) : (sl.map low == w) = b := lowR_eq hw (by rw [eq_mkS] at h; exact h)
theorem lw_len {w sl : List Nat} (h : (sl.map low == w) = true) : sl.length = w.length := by
  rw [← eq_of_beq h, List.length_map]
local macro_rules | `(tactic| walk_at "call ref") => `(tactic| (k_here; (with_reducible show wpAny _ _ (call (Value.ref 100) _) _ _ _); (first | (k_dflt (refine' Says.useN (law_after_blob_ _ _ _ _ _ _ (by walk_at "my side") (by walk_at "my side")) (blob_le_at (by walk_at "my side")) ?k1 ?k2 ?k3 ?k4 ?k5 ?k6 ?k7 ?k8 ?_; (case k1 => k_asm); (case k2 => k_asm); (case k3 => k_asm); (case k4 => k_asm); (case k5 => k_asm); (case k6 => first | exact rfl | assumption); (case k7 => ktr_room); (case k8 => ktr_units)))); intro _ _ _ _ _ _ _ _; (try dsimp only)))
set_option maxRecDepth 100000 in
set_option maxHeartbeats 8000000 in
theorem law_after_word_ (w : World) (x : Str) (tx : Tok) (i : Nat) (ti : Tok) (news : Led) (hx : x.length ≤ 100000) (hi : i ≤ x.length) (ha : x.cps.all (· < 128) = true) :
    Says w 105 2 [.str x tx, .int i ti] news (OutI (i + lead (x.cps.toList.drop i) : Nat)) := by
  w_on
  unfold Says PG
  k_fill
  intro dp un gd cn cs a ccd cl outer A₀ base h₀ L m mean mg mb s Q E B F X N T hk hdp hu hret
  refine wpAny_call ?_
  k_dflt cell_enter
  walk_at "my steps"
  refine For_invVF (by assumption) (by rfl) (by rfl) ?_
  walk_at "my steps"
  refine seq_list (items := [Value.str (Str.ofString "fwd") _, Value.str (Str.ofString "re") _, Value.str (Str.ofString "fw") _]) (fun _ : Unit => []) [Str.ofString "behind"] (fun j _ => ∀ p, p < j → word ([wFwd, wRe, wFw].getD p []) (x.cps.toList.drop i) = 0) () (by rfl) (by assumption) (by assumption) (by assumption) (by kst_all) (fun j hj => absurd hj (Nat.not_lt_zero _)) ?_ ?_
  · intro c j v u' hh tk' own hv hP Fk' Nk'
    dsimp only [kstB] at Fk'
    obtain ⟨wl, tw, rfl, hwl, hlen, hi3⟩ := words3' hv
    have hw5 : ∀ t ∈ wl, t = 114 ∨ t = 101 ∨ t = 102 ∨ t = 119 ∨ t = 100 := words3_low hwl
    have hsl : Txt.slice x (some (i : Int)) (some ((i : Int) + ((mkS wl).length : Nat))) = mkS ((x.cps.toList.drop i).take wl.length) := by
      rw [show (i : Int) + ((mkS wl).length : Nat) = ((i + wl.length : Nat) : Int) by rw [length_mkS]; rfl, slice_nat, Nat.add_sub_cancel_left]
    have hsl2 : ((x.cps.toList.drop i).take wl.length).length ≤ 3 := by rw [List.length_take]; rw [length_mkS] at hlen; omega
    walk_at "my steps"
    rw [hsl]
    refine ⟨_, _, _, rfl, rfl, by assumption, by assumption, ascii_mkS (fun d hd => all_lt ha d (List.mem_of_mem_drop (List.mem_of_mem_take hd))), ?_, ?_⟩
    · rw [sizeLine_eq]; have h1 := length_mkS ((x.cps.toList.drop i).take wl.length); unfold Str.length at h1; omega
    rintro _ ⟨g, rfl⟩
    refine text_rest (fun c => mkS [lowR c]) ?_ ?_
    · intro c t I oI C oC D m₂ ys h tk E' hc hC hx F N off ne
      walk_at "my steps"
      exact LCg.CompEnd.intro (by assumption) (by assumption) _ (fun p hp => List.mem_cons_of_mem _ hp) off trivial ⟨rfl, _, rfl⟩
    · intro ys hy
      intro D h tk F' N' o1
      walk_at "my steps"
      generalize hq : (x.cps.toList.drop i).take wl.length = sl at *
      refine join_listW (ys := (mkS sl).cps.toList.map fun c => mkS [lowR c]) (News.isList N' (List.mem_cons_self ..)) hy (by decide) ?_ ?_
      · rw [cps_mkS, sum_one, List.length_map]; omega
      intro t' k
      have e : Txt.join (Str.ofString "") ((mkS sl).cps.toList.map fun c => mkS [lowR c]) = mkS (sl.map lowR) := by
        have := join_nil (sep := Str.ofString "") rfl (sl.map fun c => [lowR c])
        rw [flat_one, List.map_map] at this
        exact this
      rw [e]
      walk_at "my steps"
      · have hlw := lw_mk (b := true) hw5 (by assumption)
        have hle : i + (mkS wl).length ≤ x.length := by
          have h1 := lw_len hlw
          rw [← hq, List.length_take, List.length_drop, len_toList] at h1
          rw [length_mkS]; omega
        rename (News _ _ _ _) => N9
        refine ksw_while (fun _ => news ++ own) (fun c : Nat × Tok => [(Str.ofString "behind", .int (c.1 : Nat) c.2)]) (fun _ => True) [] (fun c => c.1 ≤ x.length ∧ c.1 + blanks (x.cps.toList.drop c.1) = i + wl.length + blanks (x.cps.toList.drop (i + wl.length))) (fun c => x.length - c.1) (i + (mkS wl).length, _) (by assumption) (fun p hp => N9 p (List.mem_cons_of_mem _ hp)) trivial (by kst_all) ⟨hle, by rw [length_mkS]⟩ ?_
        rintro ⟨j, tj⟩ u2 h2 tkk2 - ⟨hj1, hj2⟩ Fj Nj
        dsimp only at hj1 hj2
        dsimp only [kstB] at Fj Nj
        walk_at "my steps"
        · have hb := blanks_yes (one_yes (x := x) (k := j) 32 (by assumption) (by decide))
          rw [len_toList] at hb
          refine ksw_end (j + 1, _) (by assumption) (by assumption) (fun p hp => hp) trivial (by kst_all) (by ksw_same) ⟨?_, ?_⟩ ?_
          · show j + 1 ≤ x.length; omega
          · show j + 1 + blanks (x.cps.toList.drop (j + 1)) = _; omega
          · show x.length - (j + 1) < x.length - j; omega
        · have hb := blanks_no (one_no (x := x) (k := j) 32 (by assumption) (by decide))
          rw [← hq] at hlw
          have hw := word_yes (z1 := j) hlw (by omega) (by assumption) (one_yes 58 (by assumption) (by decide))
          refine endI hret (by assumption) (by assumption) (by walk_at "my in") ?_
          have hl := lead_at' hi3 hP hwl (by omega)
          rw [hl, hw]; rfl
        · have hb := blanks_no (one_no (x := x) (k := j) 32 (by assumption) (by decide))
          rw [← hq] at hlw
          have hw := word_no2 (z1 := j) hlw (by omega) (by assumption) (one_no 58 (by assumption) (by decide))
          refine seq_end () (by assumption) (by assumption) (by walk_at "my in") (by walk_at "my in") (by kst_all) (by kst_same) (next_all hP (by rw [hwl]; exact hw))
      · have hlw := lw_mk (b := false) hw5 (by assumption)
        rw [← hq] at hlw
        refine seq_end () (by assumption) (by assumption) (by walk_at "my in") (by walk_at "my in") (by kst_all) (by kst_same) (next_all hP (by rw [hwl]; exact word_no1 hlw))
  · intro c u' hh tk' hP Fk' Nk'
    dsimp only [kstB] at Fk'
    walk_at "my steps"
    refine endI hret (by assumption) (by assumption) (by walk_at "my in") ?_
    rw [lead_none' hP]; rfl
end Mine
end
section
open PySem PySem.W PySem.Calls PyProof.Rows
set_option Elab.async false
namespace Mine
local macro_rules | `(tactic| walk_at "my steps") => `(tactic| repeat' ((fail_if_success (with_reducible show wpAny _ _ (exec (Stmt.While _ _ _ _) _) _ _ _)); (fail_if_success (with_reducible show wpAny _ _ (exec (Stmt.For _ _ _ _ _) _) _ _ _)); (fail_if_success (with_reducible show wpAny _ _ (pyIter _) _ _ _)); first | (k_unfold; (try dsimp only)) | (k_end; wrow_close) | walk1 | (dsimp only; walk1) | (leave1; walk_say "STEP leave1"; try dsimp only) | fail "no step"))
local macro_rules | `(tactic| walk_at "my in") => `(tactic| (intro p hp; first | exact hp | exact List.mem_append.mpr (.inl hp) | exact List.mem_append.mpr (.inr hp) | exact List.mem_cons_of_mem _ hp | exact List.mem_cons_of_mem _ (List.mem_cons_of_mem _ hp) | exact List.mem_cons_of_mem _ (List.mem_cons_of_mem _ (List.mem_cons_of_mem _ hp))))
local macro_rules | `(tactic| walk_at "my side") => `(tactic| first | assumption | omega | (rw [length_mkS]; omega))
theorem reads_lead_at {l : List Nat} {k z m : Nat} (h : z = k + lead (l.drop k)) (h1 : k < z) (R : Reads (l.drop k) m) : ∃ m2, m = m2 + 1 ∧ Reads (l.drop z) m2 := by
  obtain ⟨m2, e2, R2⟩ := reads_lead (l := l.drop k) (by omega) R
  rw [List.drop_drop, ← h] at R2
  exact ⟨m2, e2, R2⟩
theorem reads_blob_at {l : List Nat} {k z m : Nat} (h : z = k + blob (l.drop k)) (h1 : k < z) (R : Reads (l.drop k) m) : Reads (l.drop z) m := by
  have R2 := reads_blob (l := l.drop k) (by omega) R
  rw [List.drop_drop, ← h] at R2
  exact R2
theorem item_blank {x : Str} {k : Nat} (hk : k < x.length) (h : (Txt.item x (k : Int) == Str.ofString " ") = true) : x.cps.toList[k]? = some 32 ∧ x.cps.toList.drop k = 32 :: x.cps.toList.drop (k + 1) := by
  obtain ⟨c, hc⟩ : ∃ c, x.cps.toList[k]? = some c := ⟨_, List.getElem?_eq_getElem (by rw [len_toList]; exact hk)⟩
  rw [item_sign hc] at h
  have h1 := eq_of_beq h
  have h2 : [c] = [32] := congrArg (fun s : Str => s.cps.toList) h1
  cases h2
  exact ⟨hc, (drop_yes (some_take1 hc)).2⟩
theorem item_noblank {x : Str} {k : Nat} (hk : k < x.length) (h : (Txt.item x (k : Int) == Str.ofString " ") = false) : (x.cps.toList.drop k).take 1 ≠ [32] := by
  intro h1
  have h2 := take1_some h1
  rw [item_sign h2] at h
  have : (({ cps := #[32] } : Str) == Str.ofString " ") = true := by decide
  rw [this] at h; cases h
theorem lead_le_at {x : Str} {i : Nat} (h : i ≤ x.length) : i + lead (x.cps.toList.drop i) ≤ x.length := by
  have := lead_le_len (x.cps.toList.drop i)
  rw [List.length_drop, len_toList] at this; omega
local macro_rules | `(tactic| walk_at "call ref") => `(tactic| (k_here; (with_reducible show wpAny _ _ (call (Value.ref 100) _) _ _ _); (first | (k_dflt (refine' Says.useN (law_after_blob_ _ _ _ _ _ _ (by walk_at "my side") (by walk_at "my side")) (blob_le_at (by walk_at "my side")) ?k1 ?k2 ?k3 ?k4 ?k5 ?k6 ?k7 ?k8 ?_; (case k1 => k_asm); (case k2 => k_asm); (case k3 => k_asm); (case k4 => k_asm); (case k5 => k_asm); (case k6 => first | exact rfl | assumption); (case k7 => ktr_room); (case k8 => ktr_units)))); intro _ _ _ _ _ _ _ _; (try dsimp only)))
local macro_rules | `(tactic| walk_at "call ref") => `(tactic| (k_here; (with_reducible show wpAny _ _ (call (Value.ref 105) _) _ _ _); (first | (k_dflt (refine' Says.useN (law_after_word_ _ _ _ _ _ _ (by walk_at "my side") (by walk_at "my side") (by walk_at "my side")) (lead_le_at (by walk_at "my side")) ?k1 ?k2 ?k3 ?k4 ?k5 ?k6 ?k7 ?k8 ?_; (case k1 => k_asm); (case k2 => k_asm); (case k3 => k_asm); (case k4 => k_asm); (case k5 => k_asm); (case k6 => first | exact rfl | assumption); (case k7 => ktr_room); (case k8 => ktr_units)))); intro _ _ _ _ _ _ _ _; (try dsimp only)))
set_option maxRecDepth 100000 in
set_option maxHeartbeats 8000000 in
theorem law_leaders_in_ (w : World) (x : Str) (tx : Tok) (n : Nat) (news : Led) (hx : x.length ≤ 100000) (ha : x.cps.all (· < 128) = true) (hr : Reads x.cps.toList n) :
    Says w 112 3 [.str x tx] news (OutI (n : Nat)) := by
  w_on
  unfold Says PG
  k_fill
  intro dp un gd cn cs a ccd cl outer A₀ base h₀ L m mean mg mb s Q E B F X N T hk hdp hu hret
  refine wpAny_call ?_
  k_dflt cell_enter
  walk_at "my steps"
  refine ksw_while (fun _ => news) (fun c : (Nat × Tok) × (Nat × Tok) => [(Str.ofString "at", .int (c.1.1 : Nat) c.1.2), (Str.ofString "count", .int (c.2.1 : Nat) c.2.2)]) (fun _ => True) [Str.ofString "behind"] (fun c => c.1.1 ≤ x.length ∧ ∃ m, Reads (x.cps.toList.drop c.1.1) m ∧ c.2.1 + m = n) (fun c => x.length - c.1.1) ((0, _), (0, _)) (by assumption) (by assumption) trivial (by kst_all) ⟨Nat.zero_le _, n, hr, Nat.zero_add _⟩ ?_
  rintro ⟨⟨k, tk⟩, ⟨q, tq⟩⟩ u h tkk - ⟨hk1, m', hk2, hk3⟩ Fk Nk
  dsimp only at hk1 hk2 hk3
  dsimp only [kstB] at Fk Nk
  walk_at "my steps"
  · omega
  · obtain ⟨m2, e2, R2⟩ := reads_lead_at (by assumption) (by omega) hk2
    refine ksw_end ((_, _), (q + 1, _)) (by assumption) (by assumption) (fun p hp => hp) trivial (by kst_all) (by ksw_same) ⟨by assumption, m2, ?_, ?_⟩ ?_
    · exact R2
    · show q + 1 + m2 = n; omega
    · dsimp only; omega
  · omega
  · have hb := item_blank (x := x) (k := k) (by omega) (by assumption)
    rw [hb.2] at hk2
    refine ksw_end ((k + 1, _), (q, _)) (by assumption) (by assumption) (fun p hp => hp) trivial (by kst_all) (by ksw_same) ⟨?_, m', reads_blank hk2, hk3⟩ ?_
    · show k + 1 ≤ x.length; omega
    · show x.length - (k + 1) < x.length - k; omega
  · exfalso
    have hb := item_noblank (x := x) (k := k) (by omega) (by assumption)
    refine reads_stuck (l := x.cps.toList.drop k) ?_ (by omega) hb (by omega) hk2
    intro hn
    have := congrArg List.length hn
    rw [List.length_drop, len_toList, List.length_nil] at this; omega
  · have R2 := reads_blob_at (z := _) (by assumption) (by omega) hk2
    refine ksw_end ((_, _), (q, _)) (by assumption) (by assumption) (fun p hp => hp) trivial (by kst_all) (by ksw_same) ⟨by assumption, m', R2, hk3⟩ ?_
    dsimp only; omega
  · refine endI hret (by assumption) (by assumption) (by walk_at "my in") ?_
    rw [List.drop_of_length_le (by rw [len_toList]; omega)] at hk2
    have := reads_nil hk2
    have e : q = n := by omega
    rw [e]
end Mine
end
section
open PySem PySem.W PySem.Calls PyProof.Rows
set_option Elab.async false
namespace Mine
local macro_rules | `(tactic| walk_at "my steps") => `(tactic| repeat' ((fail_if_success (with_reducible show wpAny _ _ (exec (Stmt.While _ _ _ _) _) _ _ _)); (fail_if_success (with_reducible show wpAny _ _ (exec (Stmt.For _ _ _ _ _) _) _ _ _)); (fail_if_success (with_reducible show wpAny _ _ (pyIter _) _ _ _)); first | (k_unfold; (try dsimp only)) | (k_end; wrow_close) | walk1 | (dsimp only; walk1) | (leave1; walk_say "STEP leave1"; try dsimp only) | fail "no step"))
local macro_rules | `(tactic| walk_at "my in") => `(tactic| (intro p hp; first | exact hp | exact List.mem_append.mpr (.inl hp) | exact List.mem_append.mpr (.inr hp) | exact List.mem_cons_of_mem _ hp | exact List.mem_cons_of_mem _ (List.mem_cons_of_mem _ hp) | exact List.mem_cons_of_mem _ (List.mem_cons_of_mem _ (List.mem_cons_of_mem _ hp))))
local macro_rules | `(tactic| walk_at "my side") => `(tactic| first | assumption | omega | (rw [length_mkS]; omega))
theorem law_after_blob_0 (w : World) (x : Str) (tx : Tok) (ti : Tok) (news : Led) (hx : x.length ≤ 100000) :
    Says w 100 1 [.str x tx, .int 0 ti] news (OutI (0 + blob (x.cps.toList.drop 0) : Nat)) := law_after_blob_ w x tx 0 ti news hx (Nat.zero_le _)
theorem bare_first {x : Str} (hb : bare x.cps.toList) (h : (Txt.slice x none (some 1) == Str.ofString " ") = true) : False := by
  rw [show (some (1 : Int)) = some ((1 : Nat) : Int) from rfl, slice_to, show Str.ofString " " = mkS [32] by decide, eq_mkS] at h
  have h1 := eq_of_beq h
  have h2 : x.cps.toList = 32 :: x.cps.toList.drop 1 := by
    have := (drop_yes (l := x.cps.toList) (i := 0) (by rw [List.drop_zero]; exact h1)).2
    rw [List.drop_zero] at this; exact this
  have h3 := hb.1
  rw [h2] at h3
  simp [blanks] at h3
theorem bare_in {x : Str} {z : Nat} (hb : bare x.cps.toList) (hz : z = 0 + blob (x.cps.toList.drop 0)) : ([(0 : Int), (x.length : Int)].any fun x => x == (z : Int)) = true := by
  rw [List.drop_zero, Nat.zero_add] at hz
  have h2 := hb.2.2
  rw [← hz, len_toList] at h2
  rcases h2 with h2 | h2 <;> simp [h2]
local macro_rules | `(tactic| walk_at "call ref") => `(tactic| (k_here; (with_reducible show wpAny _ _ (call (Value.ref 100) _) _ _ _); (first | (k_dflt (refine' Says.useN (law_after_blob_ _ _ _ _ _ _ (by walk_at "my side") (by walk_at "my side")) (blob_le_at (by walk_at "my side")) ?k1 ?k2 ?k3 ?k4 ?k5 ?k6 ?k7 ?k8 ?_; (case k1 => k_asm); (case k2 => k_asm); (case k3 => k_asm); (case k4 => k_asm); (case k5 => k_asm); (case k6 => first | exact rfl | assumption); (case k7 => ktr_room); (case k8 => ktr_units)))); intro _ _ _ _ _ _ _ _; (try dsimp only)))
local macro_rules | `(tactic| walk_at "call ref") => `(tactic| (k_here; (with_reducible show wpAny _ _ (call (Value.ref 100) _) _ _ _); (first | (k_dflt (refine' Says.useN (law_after_blob_0 _ _ _ _ _ (by walk_at "my side")) (Nat.le_refl _) ?k1 ?k2 ?k3 ?k4 ?k5 ?k6 ?k7 ?k8 ?_; (case k1 => k_asm); (case k2 => k_asm); (case k3 => k_asm); (case k4 => k_asm); (case k5 => k_asm); (case k6 => first | exact rfl | assumption); (case k7 => ktr_room); (case k8 => ktr_units)))); intro _ _ _ _ _ _ _ _; (try dsimp only)))
local macro_rules | `(tactic| walk_at "call ref") => `(tactic| (k_here; (with_reducible show wpAny _ _ (call (Value.ref 105) _) _ _ _); (first | (k_dflt (refine' Says.useN (law_after_word_ _ _ _ _ _ _ (by walk_at "my side") (by walk_at "my side") (by walk_at "my side")) (lead_le_at (by walk_at "my side")) ?k1 ?k2 ?k3 ?k4 ?k5 ?k6 ?k7 ?k8 ?_; (case k1 => k_asm); (case k2 => k_asm); (case k3 => k_asm); (case k4 => k_asm); (case k5 => k_asm); (case k6 => first | exact rfl | assumption); (case k7 => ktr_room); (case k8 => ktr_units)))); intro _ _ _ _ _ _ _ _; (try dsimp only)))
set_option maxRecDepth 100000 in
set_option maxHeartbeats 8000000 in
theorem law_is_bare_ (w : World) (x : Str) (tx : Tok) (news : Led) (hx : x.length ≤ 100000) (ha : x.cps.all (· < 128) = true) (hb : bare x.cps.toList) :
    Says w 119 3 [.str x tx] news (OutB true) := by
  w_on
  unfold Says PG
  k_fill
  intro dp un gd cn cs a ccd cl outer A₀ base h₀ L m mean mg mb s Q E B F X N T hk hdp hu hret
  refine wpAny_call ?_
  k_dflt cell_enter
  walk_at "my steps"
  · exact (bare_first hb (by assumption)).elim
  refine ksw_while (fun _ => news) (fun c : Nat × Tok => [(Str.ofString "at", .int (c.1 : Nat) c.2)]) (fun _ => True) [] (fun c => c.1 ≤ x.length ∧ c.1 + blobs (x.cps.toList.drop c.1) = blobs x.cps.toList) (fun c => x.length - c.1) (0, _) (by assumption) (by assumption) trivial (by kst_all) ⟨by show 0 ≤ _; omega, by simp⟩ ?_
  rintro ⟨k, tk⟩ u h tkk - ⟨hk1, hk2⟩ Fk Nk
  dsimp only at hk1 hk2
  dsimp only [kstB] at Fk Nk
  walk_at "my steps"
  · refine ksw_end (⟨_, _⟩ : Nat × Tok) (by assumption) (by assumption) (fun p hp => hp) trivial (by kst_all) (by ksw_same) ⟨by assumption, blobs_step hk2 (by assumption) (by omega)⟩ ?_
    dsimp only; omega
  · exfalso
    have hbl : blobs x.cps.toList = k := blobs_stop hk2 (by assumption) (by omega)
    have h2 := hb.2.1
    rw [hbl] at h2
    omega
  · refine endB hret (by assumption) (by assumption) (by walk_at "my in") ?_
    exact bare_in hb (by assumption)
end Mine
end
section
open PySem PySem.W PySem.Calls PyProof.Rows
set_option Elab.async false
namespace Mine
local macro_rules | `(tactic| walk_at "my steps") => `(tactic| repeat' ((fail_if_success (with_reducible show wpAny _ _ (exec (Stmt.While _ _ _ _) _) _ _ _)); (fail_if_success (with_reducible show wpAny _ _ (exec (Stmt.For _ _ _ _ _) _) _ _ _)); (fail_if_success (with_reducible show wpAny _ _ (pyIter _) _ _ _)); first | (k_unfold; (try dsimp only)) | (k_end; wrow_close) | walk1 | (dsimp only; walk1) | (leave1; walk_say "STEP leave1"; try dsimp only) | fail "no step"))
local macro_rules | `(tactic| walk_at "my in") => `(tactic| (intro p hp; first | exact hp | exact List.mem_append.mpr (.inl hp) | exact List.mem_append.mpr (.inr hp) | exact List.mem_cons_of_mem _ hp | exact List.mem_cons_of_mem _ (List.mem_cons_of_mem _ hp) | exact List.mem_cons_of_mem _ (List.mem_cons_of_mem _ (List.mem_cons_of_mem _ hp))))
theorem updP {P C : Addr} {o o' oc : Obj} {news : Led} (h : C ≠ P) (g : ∀ p ∈ news, p.1 ≠ P) : Upd P o o' ((P, o) :: (C, oc) :: news) ((P, o') :: (C, oc) :: news) :=
  .head (List.forall_mem_cons.mpr ⟨h, g⟩)
theorem updC {P C : Addr} {o o' op : Obj} {news : Led} (h : P ≠ C) (g : ∀ p ∈ news, p.1 ≠ C) : Upd C o o' ((P, op) :: (C, o) :: news) ((P, op) :: (C, o') :: news) :=
  .tail h (.head g)
local macro_rules | `(tactic| k_upd) => `(tactic| first | exact updP (by assumption) (by assumption) | exact updC (by assumption) (by assumption))
abbrev potL (P C : Addr) (vs : List Value) (st pl : Int) (ts tp : Tok) (kp kc : Nat) : Led := [(P, { cls := .type "list", data := .seq #[.ref C, .int st ts, .int pl tp] kp }), (C, { cls := .type "list", data := .seq vs.toArray kc })]
def Draws (w : World) (limit : Int) : Prop :=
  ∀ (dp un : Nat) (gd : Option (List Code)) (cn : Str) (cs : Scope) (a : Addr) (ccd : Value) (cl : List (Str × Addr)) (outer : List Env) (A₀ : Around) (base h₀ : Heap) (L : Addr) (m : Str → Option Value) (mean : ExcName → Option Value) (mg mb : Str → Option Value) (s : Shared) (Q E : Value → Shared → Prop)
    (P C : Addr) (vs : List Value) (ns : List Int) (st pl : Int) (ts tp tl : Tok) (kp kc : Nat) (news : Led),
    Below A₀ base outer h₀ → Fr h₀ L s.heap m → (hd.heap_39 w.params).In h₀ → News h₀ L s.heap (potL P C vs st pl ts tp kp kc ++ news) → Top hd.view_39 (looseW hd.view_39 []) mean mg mb h₀ → cs.kind = .function →
    dp + 1 < recursionLimit → un + 8 * 1 < cLine → P ≠ C → (∀ p ∈ news, p.1 ≠ P ∧ p.1 ≠ C) → IntsAre vs ns → ns.length ≤ 40 → 0 ≤ st → st < 2147483647 → 0 ≤ pl → pl ≤ 1000 → 
    (∀ r h' tk' vs' ns' st' ts' tp' kp' kc' t', Fr h₀ L h' m → News h₀ L h' (potL P C vs' st' (pl + 1) ts' tp' kp' kc' ++ news) → 0 ≤ r → r < limit → IntsAre vs' ns' → ns'.length ≤ 40 → 0 ≤ st' → st' < 2147483647 → Q (.int r t') { s with heap := h', toks := tk' }) →
    wpAny (model PG w) (ktrTop dp un gd cn cs L a ccd cl outer) (call (.ref 86) [.ref P, .int limit tl]) Q E s
set_option maxRecDepth 100000 in
set_option maxHeartbeats 8000000 in
theorem law_draw_ (w : World) (limit : Int) (hl0 : 0 < limit) (hl1 : limit ≤ 16) : Draws w limit := by
  w_on
  unfold Draws PG
  k_fill
  intro dp un gd cn cs a ccd cl outer A₀ base h₀ L m mean mg mb s Q E P C vs ns st pl ts tp tl kp kc news B F X N T hk hdp hu hPC hoff hI hlen hs0 hs1 hp0 hp1 hret
  have hCP : C ≠ P := fun h => hPC h.symm
  have hoP : ∀ p ∈ news, p.1 ≠ P := fun p hp => (hoff p hp).1
  have hoC : ∀ p ∈ news, p.1 ≠ C := fun p hp => (hoff p hp).2
  dsimp only [potL, List.cons_append, List.nil_append] at N
  refine wpAny_call ?_
  k_dflt cell_enter
  walk_at "my steps"
  · refine hret _ _ _ _ _ _ _ _ _ _ _ (by assumption) (by assumption) (fmod_lo _ hl0) (fmod_hi _ hl0) (by assumption) ?_ hs0 hs1
    rw [List.length_set]; exact hlen
  · refine hret _ _ _ _ _ _ _ _ _ _ _ (by assumption) (by assumption) (fmod_lo _ hl0) (fmod_hi _ hl0) hI hlen (fmod_lo _ (by decide)) (fmod_hi _ (by decide))
  · refine hret _ _ _ _ _ _ _ _ _ _ _ (by assumption) (by assumption) (fmod_lo _ hl0) (fmod_hi _ hl0) hI hlen (fmod_lo _ (by decide)) (fmod_hi _ (by decide))
end Mine
end
section
open PySem PySem.W PySem.Calls PyProof.Rows
set_option Elab.async false
namespace Mine
local macro_rules | `(tactic| walk_at "pad") => `(tactic| skip)
local macro_rules | `(tactic| walk_at "my steps") => `(tactic| repeat' ((fail_if_success (with_reducible show wpAny _ _ (exec (Stmt.While _ _ _ _) _) _ _ _)); (fail_if_success (with_reducible show wpAny _ _ (exec (Stmt.For _ _ _ _ _) _) _ _ _)); (fail_if_success (with_reducible show wpAny _ _ (pyIter _) _ _ _)); first | (k_unfold; (try dsimp only)) | (k_end; wrow_close) | walk1 | (dsimp only; walk1) | (leave1; walk_say "STEP leave1"; try dsimp only) | fail "no step"))
local macro_rules | `(tactic| walk_at "my in") => `(tactic| (intro p hp; first | exact hp | exact List.mem_append.mpr (.inl hp) | exact List.mem_append.mpr (.inr hp) | exact List.mem_cons_of_mem _ hp | exact List.mem_cons_of_mem _ (List.mem_cons_of_mem _ hp) | exact List.mem_cons_of_mem _ (List.mem_cons_of_mem _ (List.mem_cons_of_mem _ hp))))
def PotOK (vs : List Value) (ns : List Int) (st : Int) : Prop := IntsAre vs ns ∧ ns.length ≤ 40 ∧ 0 ≤ st ∧ st < 2147483647
theorem pre2 {h₀ h : Heap} {L : Addr} {a b : Addr × Obj} {r : Led} (N : News h₀ L h (a :: b :: r)) : News h₀ L h [a, b] := fun p hp => N p (by
  rcases List.mem_cons.mp hp with e | hp
  · rw [e]; exact List.mem_cons_self ..
  · rw [List.mem_singleton.mp hp]; exact List.mem_cons_of_mem _ (List.mem_cons_self ..))
theorem fold_in (xs : List Int) : ∀ (a : Int), (0 ≤ a ∧ a < 2147483647) → 0 ≤ xs.foldl (fun a' n' => (a' * 48271 + Int.fmod n' 2147483647 + 12345).fmod 2147483647) a ∧ xs.foldl (fun a' n' => (a' * 48271 + Int.fmod n' 2147483647 + 12345).fmod 2147483647) a < 2147483647 := by
  induction xs with
  | nil => intro a h; exact h
  | cons x xs ih => intro a h; exact ih _ ⟨fmod_lo _ (by decide), fmod_hi _ (by decide)⟩
def MakesPot (w : World) : Prop :=
  ∀ (dp un : Nat) (gd : Option (List Code)) (cn : Str) (cs : Scope) (a : Addr) (ccd : Value) (cl : List (Str × Addr)) (outer : List Env) (A₀ : Around) (base h₀ : Heap) (L : Addr) (m : Str → Option Value) (mean : ExcName → Option Value) (mg mb : Str → Option Value) (s : Shared) (Q E : Value → Shared → Prop)
    (q : Addr) (us : List Value) (ks : List Int),
    Below A₀ base outer h₀ → Fr h₀ L s.heap m → (hd.heap_39 w.params).In h₀ → News h₀ L s.heap [] → Top hd.view_39 (looseW hd.view_39 []) mean mg mb h₀ → cs.kind = .function →
    dp + 1 < recursionLimit → un + 8 * 1 < cLine → h₀.IsList q us.toArray → IntsAre us ks → ks.length ≤ 63 →
    (∀ h' tk' P C vs ns st ts tp kp kc, Fr h₀ L h' m → News h₀ L h' (potL P C vs st 0 ts tp kp kc) → P ≠ C → PotOK vs ns st → Q (.ref P) { s with heap := h', toks := tk' }) →
    wpAny (model PG w) (ktrTop dp un gd cn cs L a ccd cl outer) (call (.ref 79) [.ref q]) Q E s
set_option maxRecDepth 100000 in
set_option maxHeartbeats 8000000 in
theorem law_pot_ (w : World) : MakesPot w := by
  w_on
  unfold MakesPot PG
  k_fill
  intro dp un gd cn cs a ccd cl outer A₀ base h₀ L m mean mg mb s Q E q us ks B F X N T hk hdp hu hL hI hlen hret
  refine wpAny_call ?_
  k_dflt cell_enter
  rename Fr h₀ L _ m => FGx
  have hL2 := FGx.lst hL
  k_steps
  refine hret _ _ _ _ _ _ _ _ _ _ _ (by assumption) (pre2 (by assumption)) (Nat.ne_of_gt (by omega)) ⟨by assumption, ?_, (fold_in _ _ (by decide)).1, (fold_in _ _ (by decide)).2⟩
  simp only [List.length_map, List.length_take]
  omega
end Mine
end
section
open PySem PySem.W PySem.Calls PyProof.Rows
set_option Elab.async false
namespace Mine
local macro_rules | `(tactic| walk_at "my steps") => `(tactic| repeat' ((fail_if_success (with_reducible show wpAny _ _ (exec (Stmt.While _ _ _ _) _) _ _ _)); (fail_if_success (with_reducible show wpAny _ _ (exec (Stmt.For _ _ _ _ _) _) _ _ _)); (fail_if_success (with_reducible show wpAny _ _ (pyIter _) _ _ _)); first | (k_unfold; (try dsimp only)) | (k_end; wrow_close) | walk1 | (dsimp only; walk1) | (leave1; walk_say "STEP leave1"; try dsimp only) | fail "no step"))
local macro_rules | `(tactic| walk_at "my in") => `(tactic| (intro p hp; first | exact hp | exact List.mem_append.mpr (.inl hp) | exact List.mem_append.mpr (.inr hp) | exact List.mem_cons_of_mem _ hp | exact List.mem_cons_of_mem _ (List.mem_cons_of_mem _ hp) | exact List.mem_cons_of_mem _ (List.mem_cons_of_mem _ (List.mem_cons_of_mem _ hp))))
theorem rotR {α : Type} {a b d p : α} {r : List α} (h : p ∈ a :: b :: d :: r) : p ∈ d :: a :: b :: r := by
  simp only [List.mem_cons] at h ⊢
  rcases h with h | h | h | h <;> simp [h]
theorem rotL {α : Type} {a b d p : α} {r : List α} (h : p ∈ d :: a :: b :: r) : p ∈ a :: b :: d :: r := by
  simp only [List.mem_cons] at h ⊢
  rcases h with h | h | h | h <;> simp [h]
def Piece (l : List Nat) : Prop := l.length ≤ 9 ∧ ∀ c ∈ l, 32 ≤ c ∧ c < 127 ∧ c ≠ 40
def Pieces (vs : List Value) : Prop := ∀ v ∈ vs, ∃ l t, Piece l ∧ v = .str (mkS l) t
theorem pieces_nil : Pieces [] := fun _ h => nomatch h
theorem pieces_cons {l : List Nat} {y : Str} {t : Tok} {vs : List Value} (hy : y = mkS l) (h : Piece l) (r : Pieces vs) : Pieces (.str y t :: vs) := by
  intro v hv
  rcases List.mem_cons.mp hv with e | hv
  · exact ⟨l, t, h, by rw [e, hy]⟩
  · exact r v hv
def pieceB (l : List Nat) : Bool := decide (l.length ≤ 9) && l.all fun c => decide (32 ≤ c) && decide (c < 127) && decide (c ≠ 40)
theorem piece_of {l : List Nat} (h : pieceB l = true) : Piece l := by
  simp only [pieceB, Bool.and_eq_true, decide_eq_true_eq, List.all_eq_true] at h
  exact ⟨h.1, fun c hc => ⟨(h.2 c hc).1.1, (h.2 c hc).1.2, (h.2 c hc).2⟩⟩
theorem pieces_cons' {y : Str} {t : Tok} {vs : List Value} (h : pieceB y.cps.toList = true) (r : Pieces vs) : Pieces (.str y t :: vs) := pieces_cons (mkS_cps y).symm (piece_of h) r
def OutW (n : Nat) (news : Led) : Led → Value → Prop := fun tl r => ∃ a vs k, tl = [(a, { cls := .type "list", data := .seq vs.toArray k })] ∧ r = .ref a ∧ vs.length = n ∧ Pieces vs ∧ ∀ p ∈ news, p.1 < a
theorem endW {h₀ h' : Heap} {L : Addr} {m : Str → Option Value} {news : Led} {s : Shared} {Q : Value → Shared → Prop} {tk' n k : Nat} {a : Addr} {vs : List Value} (hret : ∀ r tl h' tk', Fr h₀ L h' m → News h₀ L h' (tl ++ news) → OutW n news tl r → Q r { s with heap := h', toks := tk' }) (F : Fr h₀ L h' m) (N : News h₀ L h' ((a, { cls := .type "list", data := .seq vs.toArray k }) :: news)) (hl : ∀ p ∈ news, p.1 < a) (hn : vs.length = n) (hp : Pieces vs) :
    Q (.ref a) { s with heap := h', toks := tk' } := hret _ [_] _ _ F N ⟨a, vs, k, rfl, rfl, hn, hp, hl⟩
theorem Says.useW {w : World} {f : Addr} {n c : Nat} {vs : List Value} {news : Led} (C : Says w f n vs news (OutW c news))
    {dp un : Nat} {gd : Option (List Code)} {cn : Str} {cs : Scope} {a : Addr} {ccd : Value} {cl : List (Str × Addr)} {outer : List Env} {A₀ : Around} {base h₀ : Heap} {L : Addr} {m : Str → Option Value} {mean : ExcName → Option Value} {mg mb : Str → Option Value} {s : Shared} {Q E : Value → Shared → Prop}
    (B : Below A₀ base outer h₀) (F : Fr h₀ L s.heap m) (X : (hd.heap_39 w.params).In h₀) (N : News h₀ L s.heap news) (T : Top hd.view_39 (looseW hd.view_39 []) mean mg mb h₀) (hk : cs.kind = .function)
    (hd : dp + n < recursionLimit) (hu : un + 8 * n < cLine)
    (ret : ∀ D us k h' tk', Fr h₀ L h' m → News h₀ L h' ((D, { cls := .type "list", data := .seq us.toArray k }) :: news) → us.length = c → Pieces us → (∀ p ∈ news, p.1 < D) → Q (.ref D) { s with heap := h', toks := tk' }) :
    wpAny (model Challenge.rw_or0026_01.row.prog w) (ktrTop dp un gd cn cs L a ccd cl outer) (call (.ref f) vs) Q E s := C.use B F X N T hk hd hu (by rintro _ _ h' tk' F N ⟨D, us, k, rfl, rfl, h1, h2, h3⟩; exact ret D us k h' tk' F N h1 h2 h3)
section
variable {prog : Program} {w : World} {A : Around} {E : Value → Shared → Prop} {s : Shared}
theorem sub_pieces {value slice : PySem.Expr} {h₀ : Heap} {L D : Addr} {news : Led} {us : List Value} {n : Nat} {k : Int} {u : Tok} {Q : Value → Shared → Prop} (N : News h₀ L s.heap news) (hm : (D, ({ cls := .type "list", data := .seq us.toArray n } : Obj)) ∈ news) (hp : Pieces us)
    (h0 : 0 ≤ k) (h1 : k < us.length) (hfit : k < 2 ^ 63) (h : ∀ l t, Piece l → Q (.str (mkS l) t) s)
    (hs : subscripted slice false (.ref D) (.int k u) = operate [.ref D, .int k u] (getItem (.ref D) (.int k u)) := by with_unfolding_all rfl) :
    wpAny (model prog w) A (subscriptTail value slice (.ref D) (.int k u)) Q E s := by
  have hl : s.heap.IsList D us.toArray := News.isList N hm
  have hx : k.toNat < us.length := by omega
  obtain ⟨l, t, hl1, he⟩ := hp _ (List.getElem_mem hx)
  refine tail_any hl.typeIs slot_list_getitem.lookup (wpAny_getItem_list hl h0 hfit (x := us[k.toNat]) (by simp) ?_) hs
  rw [he]
  exact h l t hl1
end
theorem Draws.useA {w : World} {limit : Int} (D : Draws w limit)
    {dp un : Nat} {gd : Option (List Code)} {cn : Str} {cs : Scope} {a : Addr} {ccd : Value} {cl : List (Str × Addr)} {outer : List Env} {A₀ : Around} {base h₀ : Heap} {L : Addr} {m : Str → Option Value} {mean : ExcName → Option Value} {mg mb : Str → Option Value} {s : Shared} {Q E : Value → Shared → Prop}
    {P C : Addr} {vs : List Value} {ns : List Int} {st pl : Int} {ts tp tl : Tok} {kp kc : Nat} {news : Led}
    (B : Below A₀ base outer h₀) (F : Fr h₀ L s.heap m) (X : (hd.heap_39 w.params).In h₀) (N : News h₀ L s.heap ((P, { cls := .type "list", data := .seq #[.ref C, .int st ts, .int pl tp] kp }) :: (C, { cls := .type "list", data := .seq vs.toArray kc }) :: news)) (T : Top hd.view_39 (looseW hd.view_39 []) mean mg mb h₀) (hk : cs.kind = .function)
    (hd : dp + 1 < recursionLimit) (hu : un + 8 * 1 < cLine) (hPC : P ≠ C) (hoff : ∀ p ∈ news, p.1 ≠ P ∧ p.1 ≠ C) (ok : PotOK vs ns st) (hp0 : 0 ≤ pl) (hp1 : pl ≤ 1000)
    (ret : ∀ r h' tk' vs' ns' st' ts' tp' kp' kc' t', Fr h₀ L h' m → News h₀ L h' ((P, { cls := .type "list", data := .seq #[.ref C, .int st' ts', .int (pl + 1) tp'] kp' }) :: (C, { cls := .type "list", data := .seq vs'.toArray kc' }) :: news) → 0 ≤ r → r < limit → PotOK vs' ns' st' → Q (.int r t') { s with heap := h', toks := tk' }) :
    wpAny (model Challenge.rw_or0026_01.row.prog w) (ktrTop dp un gd cn cs L a ccd cl outer) (call (.ref 86) [.ref P, .int limit tl]) Q E s :=
  D _ _ _ _ _ _ _ _ _ _ _ _ _ _ _ _ _ _ _ _ P C vs ns st pl ts tp tl kp kc news B F X N T hk hd hu hPC hoff ok.1 ok.2.1 ok.2.2.1 ok.2.2.2 hp0 hp1 (fun r h' tk' vs' ns' st' ts' tp' kp' kc' t' F' N' r0 r1 i1 i2 i3 i4 => ret r h' tk' vs' ns' st' ts' tp' kp' kc' t' F' N' r0 r1 ⟨i1, i2, i3, i4⟩)
theorem Draws.useB {w : World} {limit : Int} (D : Draws w limit)
    {dp un : Nat} {gd : Option (List Code)} {cn : Str} {cs : Scope} {a : Addr} {ccd : Value} {cl : List (Str × Addr)} {outer : List Env} {A₀ : Around} {base h₀ : Heap} {L : Addr} {m : Str → Option Value} {mean : ExcName → Option Value} {mg mb : Str → Option Value} {s : Shared} {Q E : Value → Shared → Prop}
    {P C d : Addr} {od : Obj} {vs : List Value} {ns : List Int} {st pl : Int} {ts tp tl : Tok} {kp kc : Nat} {news : Led}
    (B : Below A₀ base outer h₀) (F : Fr h₀ L s.heap m) (X : (hd.heap_39 w.params).In h₀) (N : News h₀ L s.heap ((d, od) :: (P, { cls := .type "list", data := .seq #[.ref C, .int st ts, .int pl tp] kp }) :: (C, { cls := .type "list", data := .seq vs.toArray kc }) :: news)) (T : Top hd.view_39 (looseW hd.view_39 []) mean mg mb h₀) (hk : cs.kind = .function)
    (hd : dp + 1 < recursionLimit) (hu : un + 8 * 1 < cLine) (hPC : P ≠ C) (hd1 : P < d) (hd2 : C < d) (hoff : ∀ p ∈ news, p.1 ≠ P ∧ p.1 ≠ C) (ok : PotOK vs ns st) (hp0 : 0 ≤ pl) (hp1 : pl ≤ 1000)
    (ret : ∀ r h' tk' vs' ns' st' ts' tp' kp' kc' t', Fr h₀ L h' m → News h₀ L h' ((d, od) :: (P, { cls := .type "list", data := .seq #[.ref C, .int st' ts', .int (pl + 1) tp'] kp' }) :: (C, { cls := .type "list", data := .seq vs'.toArray kc' }) :: news) → 0 ≤ r → r < limit → PotOK vs' ns' st' → Q (.int r t') { s with heap := h', toks := tk' }) :
    wpAny (model Challenge.rw_or0026_01.row.prog w) (ktrTop dp un gd cn cs L a ccd cl outer) (call (.ref 86) [.ref P, .int limit tl]) Q E s :=
  Draws.useA D (news := (d, od) :: news) B F X (fun p hp => N p (rotR hp)) T hk hd hu hPC (List.forall_mem_cons.mpr ⟨⟨Nat.ne_of_gt hd1, Nat.ne_of_gt hd2⟩, hoff⟩) ok hp0 hp1
    (fun r h' tk' vs' ns' st' ts' tp' kp' kc' t' F' N' => ret r h' tk' vs' ns' st' ts' tp' kp' kc' t' F' (fun p hp => N' p (rotL hp)))
set_option maxRecDepth 100000 in
set_option maxHeartbeats 8000000 in
theorem law_words_ (w : World) (news : Led) : Says w 93 1 [] news (OutW 16 news) := by
  w_on
  unfold Says PG
  k_fill
  intro dp un gd cn cs a ccd cl outer A₀ base h₀ L m mean mg mb s Q E B F X N T hk hdp hu hret
  refine wpAny_call ?_
  k_dflt cell_enter
  walk_at "my steps"
  refine endW hret (by assumption) (by assumption) (by assumption) rfl ?_
  repeat (refine pieces_cons' (by decide) ?_)
  exact pieces_nil
end Mine
end
section
/-! the plain law, third part: what goes can be read, what is left is bare -/
namespace Mine
inductive Path : List Nat → List Nat → Nat → Prop
  | nil {f : List Nat} : Path f f 0
  | blank {r f : List Nat} {n : Nat} : Path r f n → Path (32 :: r) f n
  | blob {l f : List Nat} {n : Nat} : 0 < blob l → Path (l.drop (blob l)) f n → Path l f n
  | lead {l f : List Nat} {n : Nat} : 0 < lead l → Path (l.drop (lead l)) f n → Path l f (n + 1)
theorem blanks_split (l : List Nat) : l = List.replicate (blanks l) 32 ++ l.drop (blanks l) := by
  induction l with
  | nil => rfl
  | cons c r ih =>
    simp only [blanks]
    split
    · rename_i h
      rw [List.replicate_succ, List.cons_append, List.drop_succ_cons, ← ih, h]
    · rfl
theorem blanks_app (k : Nat) (a : List Nat) : blanks (List.replicate k 32 ++ a) = k + blanks a := by
  induction k with
  | zero => simp
  | succ k ih => rw [List.replicate_succ, List.cons_append]; simp only [blanks, if_true, ih]; omega
theorem blanks_rest (l : List Nat) : blanks (l.drop (blanks l)) = 0 := by
  have h := congrArg blanks (blanks_split l)
  rw [blanks_app] at h
  omega
theorem blanks_pre {a b : List Nat} (h : blanks (a ++ b) = 0) : blanks a = 0 := by
  cases a with
  | nil => rfl
  | cons c r =>
    by_cases hc : c = 32
    · subst hc; simp [blanks] at h
    · simp [blanks, hc]
theorem inner_app {l : List Nat} : ∀ {k : Nat}, inner l = some k → ∀ t, inner (l.take (k + 1) ++ t) = some k := by
  induction l with
  | nil => intro k h; cases h
  | cons c r ih =>
    intro k h t
    simp only [inner] at h
    split at h
    · rename_i hc
      cases h
      simp [inner, hc]
    · split at h
      · cases h
      · rename_i h1 h2
        cases hi : inner r with
        | none => rw [hi] at h; cases h
        | some j =>
          rw [hi] at h
          cases h
          have := ih hi t
          rw [List.take_succ_cons, List.cons_append]
          simp [inner, h1, h2, this]
/-- the blob itself, without the blanks -/
theorem blob_cases {l : List Nat} (h : 0 < blob l) : ∃ r k, l = 91 :: r ∧ inner r = some k ∧ blob l = k + 2 + blanks (r.drop (k + 1)) := by
  obtain ⟨r, e⟩ := blob_head h
  subst e
  simp only [blob, if_true] at h ⊢
  cases hi : inner r with
  | none => rw [hi] at h; simp at h
  | some k => exact ⟨r, k, rfl, hi, by simp⟩
theorem blob_rest {l : List Nat} (h : 0 < blob l) : blanks (l.drop (blob l)) = 0 := by
  obtain ⟨r, k, e, hi, hb⟩ := blob_cases h
  rw [hb, e]
  have : (91 :: r).drop (k + 2 + blanks (r.drop (k + 1))) = (r.drop (k + 1)).drop (blanks (r.drop (k + 1))) := by
    rw [List.drop_drop, show k + 2 + blanks (r.drop (k + 1)) = (k + 1 + blanks (r.drop (k + 1))) + 1 by omega, List.drop_succ_cons]
  rw [this]
  exact blanks_rest _
theorem blob_pre {l t : List Nat} (h : 0 < blob l) (ht : blanks t = 0) : blob (l.take (blob l) ++ t) = blob l := by
  obtain ⟨r, k, e, hi, hb⟩ := blob_cases h
  have hk := inner_lt hi
  have hbl := blanks_le (r.drop (k + 1))
  rw [List.length_drop] at hbl
  have hs : l.take (blob l) = 91 :: (r.take (k + 1) ++ List.replicate (blanks (r.drop (k + 1))) 32) := by
    rw [hb, e, show k + 2 + blanks (r.drop (k + 1)) = (k + 1 + blanks (r.drop (k + 1))) + 1 by omega, List.take_succ_cons, List.take_add]
    congr 2
    have := blanks_split (r.drop (k + 1))
    generalize blanks (r.drop (k + 1)) = j at *
    rw [this]
    simp
  rw [hs, List.cons_append, hb]
  have h1 : inner ((r.take (k + 1) ++ List.replicate (blanks (r.drop (k + 1))) 32) ++ t) = some k := by
    rw [List.append_assoc]; exact inner_app hi _
  simp only [blob, if_true, h1]
  have h2 : ((r.take (k + 1) ++ List.replicate (blanks (r.drop (k + 1))) 32) ++ t).drop (k + 1) = List.replicate (blanks (r.drop (k + 1))) 32 ++ t := by
    rw [List.append_assoc, List.drop_append_of_le_length (by rw [List.length_take]; omega)]
    rw [List.drop_of_length_le (by rw [List.length_take]; omega)]
    rfl
  rw [h2, blanks_app, ht]
  omega
/-- what a word leader at the begin is made of -/
theorem word_cases {w L : List Nat} (h : 0 < word w L) : ∃ b e, b = w.length + blanks (L.drop w.length) ∧ e = b + blob (L.drop b) ∧ (L.take w.length).map low = w ∧ (L.drop e).take 1 = [58] ∧ word w L = e + 1 := by
  have h1 := word_pos h
  unfold word at h ⊢
  rw [if_pos h1] at h ⊢
  dsimp only at h ⊢
  by_cases h2 : (L.drop (w.length + blanks (L.drop w.length) + blob (L.drop (w.length + blanks (L.drop w.length))))).take 1 = [58]
  · rw [if_pos h2]
    exact ⟨_, _, rfl, rfl, h1, h2, rfl⟩
  · rw [if_neg h2] at h; omega
theorem word_of {w L : List Nat} {b e : Nat} (hb : b = w.length + blanks (L.drop w.length)) (he : e = b + blob (L.drop b)) (h1 : (L.take w.length).map low = w) (h2 : (L.drop e).take 1 = [58]) : word w L = e + 1 := by
  subst hb
  subst he
  unfold word
  rw [if_pos h1]
  dsimp only
  rw [if_pos h2]
theorem blanks_short {L : List Nat} {m : Nat} (h : blanks L < m) (t : List Nat) (hL : blanks L < L.length) : blanks (L.take m ++ t) = blanks L := by
  have hs := blanks_split L
  generalize hk : blanks L = k at *
  have h0 : blanks (L.drop k) = 0 := by rw [← hk]; exact blanks_rest L
  cases hd : L.drop k with
  | nil =>
    have := congrArg List.length hd
    rw [List.length_drop, List.length_nil] at this; omega
  | cons c r =>
    rw [hd] at h0 hs
    have hc : c ≠ 32 := by intro hc; subst hc; simp [blanks] at h0
    rw [hs, List.take_append, List.length_replicate, List.take_of_length_le (by rw [List.length_replicate]; omega), List.append_assoc, blanks_app]
    have : ∃ j, m - k = j + 1 := ⟨m - k - 1, by omega⟩
    obtain ⟨j, hj⟩ := this
    rw [hj, List.take_succ_cons, List.cons_append]
    simp [blanks, hc]
theorem drop_take_app {L t : List Nat} {m i : Nat} (h : i ≤ m) (hm : m ≤ L.length) : (L.take m ++ t).drop i = (L.drop i).take (m - i) ++ t := by
  rw [List.drop_append_of_le_length (by rw [List.length_take]; omega), List.drop_take]
theorem word_pre {w L : List Nat} (h : 0 < word w L) (t : List Nat) : word w (L.take (word w L) ++ t) = word w L := by
  obtain ⟨b, e, hb, he, h1, h2, h3⟩ := word_cases h
  have he1 := (drop_yes h2).1
  have hw : w.length ≤ L.length := by
    have := congrArg List.length h1
    rw [List.length_map, List.length_take] at this; omega
  rw [h3]
  refine word_of (b := b) (e := e) ?_ ?_ ?_ ?_
  · rw [drop_take_app (by omega) (by omega), blanks_short (by omega) t (by rw [List.length_drop]; omega)]
    exact hb
  · rw [drop_take_app (by omega) (by omega)]
    by_cases hz : 0 < blob (L.drop b)
    · have hbp := blob_pre (l := L.drop b) (t := (L.drop e).take 1 ++ t) hz (by rw [h2]; rfl)
      have e1 : (L.drop b).take (blob (L.drop b)) ++ ((L.drop e).take 1 ++ t) = (L.drop b).take (e + 1 - b) ++ t := by
        rw [show e + 1 - b = blob (L.drop b) + 1 by omega, List.take_add, List.drop_drop, ← he, List.append_assoc]
      rw [e1] at hbp
      rw [hbp]; exact he
    · have e0 : blob (L.drop b) = 0 := by omega
      have eb : e = b := by omega
      have e2 : (L.drop b).take (e + 1 - b) = [58] := by rw [eb, show b + 1 - b = 1 by omega, ← eb]; exact h2
      rw [e2]
      have : blob ([58] ++ t) = 0 := rfl
      rw [this]; omega
  · rw [List.take_append_of_le_length (by rw [List.length_take]; omega), List.take_take, Nat.min_eq_left (by omega)]
    exact h1
  · rw [drop_take_app (by omega) (by omega), show e + 1 - e = 1 by omega, h2]
    rfl
theorem word_start {w L t : List Nat} {m : Nat} (hm : w.length ≤ m) (hl : m ≤ L.length) (h : 0 < word w (L.take m ++ t)) : (L.take w.length).map low = w := by
  have := word_pos h
  rw [List.take_append_of_le_length (by rw [List.length_take]; omega), List.take_take, Nat.min_eq_left hm] at this
  exact this
theorem fw_not_fwd {L : List Nat} (h : 0 < word wFw L) : (L.take 3).map low ≠ wFwd := by
  intro hf
  obtain ⟨b, e, hb, he, h1, h2, h3⟩ := word_cases h
  match L, hf with
  | [], hf => simp [wFwd] at hf
  | [_], hf => simp [wFwd] at hf
  | [_, _], hf => simp [wFwd] at hf
  | x :: y :: z :: r, hf =>
    have hz : low z = 100 := by simp [wFwd] at hf; exact hf.2.2
    have hz1 : z ≠ 32 := by intro hh; subst hh; simp [low] at hz
    have hz2 : z ≠ 91 := by intro hh; subst hh; simp [low] at hz
    have hz3 : z ≠ 58 := by intro hh; subst hh; simp [low] at hz
    have eb : b = 2 := by rw [hb]; simp [wFw, blanks, hz1]
    have ee : e = 2 := by rw [he, eb]; simp [blob, hz2]
    rw [ee] at h2
    simp at h2
    exact hz3 h2
theorem re_not_f {L : List Nat} {d : Nat} {L' : List Nat} (e : L = d :: L') (h : low d = 102) : word wRe L = 0 := by
  apply Classical.byContradiction
  intro hn
  obtain ⟨d', L'', e', h'⟩ := head_low (word_pos (w := wRe) (L := L) (by omega)) (c := 114) (r := [101]) rfl
  rw [e] at e'
  cases e'
  omega
theorem lead_pre {L : List Nat} (h : 0 < lead L) (t : List Nat) : lead (L.take (lead L) ++ t) = lead L := by
  have hle := lead_le_len L
  unfold lead at h hle ⊢
  by_cases h1 : 0 < word wRe L
  · rw [if_pos h1]
    rw [word_pre h1 t, if_pos h1]
  · rw [if_neg h1] at h hle ⊢
    by_cases h2 : 0 < word wFwd L
    · rw [if_pos h2]
      obtain ⟨d, L', e, hd⟩ := head_low (word_pos h2) (c := 102) (r := [119, 100]) rfl
      have hz : word wRe (L.take (word wFwd L) ++ t) = 0 := by
        obtain ⟨j, hj⟩ : ∃ j, word wFwd L = j + 1 := ⟨word wFwd L - 1, by omega⟩
        rw [hj, e, List.take_succ_cons, List.cons_append]
        exact re_not_f rfl hd
      rw [hz, word_pre h2 t, if_neg (by omega), if_pos h2]
    · rw [if_neg h2] at h hle ⊢
      obtain ⟨d, L', e, hd⟩ := head_low (word_pos h) (c := 102) (r := [119]) rfl
      have hz : word wRe (L.take (word wFw L) ++ t) = 0 := by
        obtain ⟨j, hj⟩ : ∃ j, word wFw L = j + 1 := ⟨word wFw L - 1, by omega⟩
        rw [hj, e, List.take_succ_cons, List.cons_append]
        exact re_not_f rfl hd
      have hz2 : word wFwd (L.take (word wFw L) ++ t) = 0 := by
        apply Classical.byContradiction
        intro hn
        obtain ⟨b, e', hb, he, g1, g2, g3⟩ := word_cases h
        have g4 : wFw.length = 2 := rfl
        have hh := word_start (w := wFwd) (by show 3 ≤ _; omega) hle (by omega : 0 < word wFwd (L.take (word wFw L) ++ t))
        exact fw_not_fwd h hh
      rw [hz, hz2, word_pre h t, if_neg (by omega), if_neg (by omega)]
theorem Path.reads {L f : List Nat} {n : Nat} (P : Path L f n) : ∃ tk, L = tk ++ f ∧ Reads tk n := by
  induction P with
  | nil => exact ⟨[], rfl, .nil⟩
  | blank _ ih =>
    obtain ⟨tk, e, R⟩ := ih
    exact ⟨32 :: tk, by rw [e]; rfl, .blank R⟩
  | @blob l f n h _ ih =>
    obtain ⟨tk, e, R⟩ := ih
    have ht : blanks tk = 0 := blanks_pre (b := f) (by rw [← e]; exact blob_rest h)
    have hb := blob_pre h ht
    refine ⟨l.take (Mine.blob l) ++ tk, ?_, .blob (by omega) ?_⟩
    · rw [List.append_assoc, ← e, List.take_append_drop]
    · rw [hb, List.drop_append_of_le_length (by rw [List.length_take]; have := blob_le l; omega), List.drop_of_length_le (by rw [List.length_take]; omega)]
      exact R
  | @lead l f n h _ ih =>
    obtain ⟨tk, e, R⟩ := ih
    have hb := lead_pre h tk
    refine ⟨l.take (Mine.lead l) ++ tk, ?_, .lead (by omega) ?_⟩
    · rw [List.append_assoc, ← e, List.take_append_drop]
    · rw [hb, List.drop_append_of_le_length (by rw [List.length_take]; have := lead_le_len l; omega), List.drop_of_length_le (by rw [List.length_take]; omega)]
      exact R
theorem path_blanks {l f : List Nat} {n : Nat} (P : Path (l.drop (blanks l)) f n) : Path l f n := by
  have h := blanks_split l
  generalize hq : l.drop (blanks l) = q at *
  rw [h]
  clear h hq
  induction blanks l with
  | zero => exact P
  | succ k ih => rw [List.replicate_succ, List.cons_append]; exact .blank ih
theorem path_blobs {q f : List Nat} {n : Nat} (P : Path (q.drop (blobs q)) f n) : Path q f n := by
  by_cases h : 0 < blob q
  · rw [blobs_pos h, ← List.drop_drop] at P
    exact .blob h (path_blobs P)
  · rw [blobs_zero (by omega)] at P
    exact P
termination_by q.length
decreasing_by
  have := blob_le q
  rw [List.length_drop]; omega
theorem wl_path (l : List Nat) (cut : Bool) : ∃ n, Path l (wl l cut).1 n ∧ (wl l cut).2 = (cut || decide (0 < n)) ∧ bare (wl l cut).1 := by
  rw [wl.eq_1]
  generalize hq : l.drop (blanks l) = q
  have hb0 : blanks q = 0 := by rw [← hq]; exact blanks_rest l
  have hqle : q.length ≤ l.length := by rw [← hq, List.length_drop]; omega
  by_cases h1 : 0 < lead (q.drop (blobs q))
  · rw [if_pos h1]
    have hlt : (q.drop (blobs q + lead (q.drop (blobs q)))).length < l.length := by
      have := lead_pos h1
      rw [List.length_drop] at this ⊢; omega
    obtain ⟨n, P, e, hbare⟩ := wl_path (q.drop (blobs q + lead (q.drop (blobs q)))) true
    refine ⟨n + 1, path_blanks (by rw [hq]; exact path_blobs (.lead h1 (by rw [List.drop_drop]; exact P))), by rw [e]; simp, hbare⟩
  · rw [if_neg h1]
    by_cases h2 : blob q = 0 ∨ blob q = q.length
    · rw [if_pos h2]
      exact ⟨0, path_blanks (by rw [hq]; exact .nil), by simp, hb0, (by show lead (q.drop (blobs q)) = 0; omega), h2⟩
    · rw [if_neg h2]
      have h3 : 0 < blob q := by omega
      have hlt : (q.drop (blob q)).length < l.length := by
        have := blob_le q
        rw [List.length_drop]; omega
      obtain ⟨n, P, e, hbare⟩ := wl_path (q.drop (blob q)) cut
      exact ⟨n, path_blanks (by rw [hq]; exact .blob h3 P), e, hbare⟩
termination_by l.length
decreasing_by all_goals assumption
theorem wl_bare {f : List Nat} (h : bare f) : wl f false = (f, false) := by
  rw [wl.eq_1, h.1, List.drop_zero, if_neg (by rw [h.2.1]; omega), if_pos h.2.2]
end Mine
end
section
/-! the plain law, fourth part: the base of what is left -/
namespace Mine
/-- b is a with each run of blanks one blank; no blank at the end -/
inductive Col : List Nat → List Nat → Prop
  | nil : Col [] []
  | sign {c : Nat} {a b : List Nat} : c ≠ 32 → Col a b → Col (c :: a) (c :: b)
  | gap {k : Nat} {a b : List Nat} : a ≠ [] → blanks a = 0 → Col a b → Col (List.replicate (k + 1) 32 ++ a) (32 :: b)
theorem rep_drop (n : Nat) (a : List Nat) : (List.replicate n 32 ++ a).drop n = a := by
  induction n with
  | zero => rfl
  | succ n ih => rw [List.replicate_succ, List.cons_append, List.drop_succ_cons, ih]
theorem Col.nil_iff {a b : List Nat} (h : Col a b) : a = [] ↔ b = [] := by
  cases h with
  | nil => simp
  | sign => simp
  | gap h => simp [h]
theorem Col.blanks0 {a b : List Nat} (h : Col a b) (ha : Mine.blanks a = 0) : Mine.blanks b = 0 := by
  cases h with
  | nil => rfl
  | sign hc => simp [Mine.blanks, hc]
  | gap _ _ _ => rw [blanks_app] at ha; omega
theorem Col.blanks {a b : List Nat} (h : Col a b) : Col (a.drop (Mine.blanks a)) (b.drop (Mine.blanks b)) := by
  cases h with
  | nil => exact .nil
  | sign hc h => simp [Mine.blanks, hc]; exact .sign hc h
  | @gap k a b h1 h2 h3 =>
    have e : (List.replicate (k + 1) 32 ++ a).drop (Mine.blanks (List.replicate (k + 1) 32 ++ a)) = a := by
      rw [blanks_app, h2, Nat.add_zero, List.drop_append_of_le_length (by rw [List.length_replicate]; omega), List.drop_of_length_le (by rw [List.length_replicate]; omega)]
      rfl
    have e2 : (32 :: b).drop (Mine.blanks (32 :: b)) = b := by simp [Mine.blanks, h3.blanks0 h2]
    rw [e, e2]
    exact h3
theorem inner_rep (k : Nat) (a : List Nat) : inner (List.replicate k 32 ++ a) = (inner a).map (· + k) := by
  induction k with
  | zero => simp
  | succ k ih =>
    rw [List.replicate_succ, List.cons_append]
    simp only [inner, ih]
    cases inner a <;> simp <;> omega
theorem Col.inner {a b : List Nat} (h : Col a b) : (Mine.inner a = none ∧ Mine.inner b = none) ∨ ∃ k j, Mine.inner a = some k ∧ Mine.inner b = some j ∧ Col (a.drop (k + 1)) (b.drop (j + 1)) := by
  induction h with
  | nil => exact .inl ⟨rfl, rfl⟩
  | @sign c a b hc h ih =>
    by_cases h1 : c = 93
    · exact .inr ⟨0, 0, by simp [Mine.inner, h1], by simp [Mine.inner, h1], by simpa using h⟩
    · by_cases h2 : c = 91
      · exact .inl ⟨by simp [Mine.inner, h2], by simp [Mine.inner, h2]⟩
      · rcases ih with ⟨e1, e2⟩ | ⟨k, j, e1, e2, hd⟩
        · exact .inl ⟨by simp [Mine.inner, h1, h2, e1], by simp [Mine.inner, h1, h2, e2]⟩
        · exact .inr ⟨k + 1, j + 1, by simp [Mine.inner, h1, h2, e1], by simp [Mine.inner, h1, h2, e2], by simpa using hd⟩
  | @gap n a b h1 h2 h3 ih =>
    rcases ih with ⟨e1, e2⟩ | ⟨k, j, e1, e2, hd⟩
    · exact .inl ⟨by rw [inner_rep, e1]; rfl, by simp [Mine.inner, e2]⟩
    · refine .inr ⟨k + (n + 1), j + 1, by rw [inner_rep, e1]; rfl, by simp [Mine.inner, e2], ?_⟩
      rw [show k + (n + 1) + 1 = (n + 1) + (k + 1) by omega, ← List.drop_drop, rep_drop]
      simpa using hd
theorem blob_some' {r : List Nat} {k : Nat} (h : inner r = some k) : blob (91 :: r) = k + 2 + blanks (r.drop (k + 1)) := by
  simp [blob, h]
theorem Col.blob {a b : List Nat} (h : Col a b) : (Mine.blob a = 0 ∧ Mine.blob b = 0) ∨ (0 < Mine.blob a ∧ 0 < Mine.blob b ∧ Col (a.drop (Mine.blob a)) (b.drop (Mine.blob b))) := by
  cases h with
  | nil => exact .inl ⟨rfl, rfl⟩
  | @sign c a b hc h =>
    by_cases h1 : c = 91
    · subst h1
      rcases h.inner with ⟨e1, e2⟩ | ⟨k, j, e1, e2, hd⟩
      · exact .inl ⟨by simp [Mine.blob, e1], by simp [Mine.blob, e2]⟩
      · refine .inr ⟨by rw [blob_some' e1]; omega, by rw [blob_some' e2]; omega, ?_⟩
        rw [blob_some' e1, blob_some' e2]
        have h3 := hd.blanks
        rw [List.drop_drop, List.drop_drop] at h3
        rw [show k + 2 + Mine.blanks (a.drop (k + 1)) = (k + 1 + Mine.blanks (a.drop (k + 1))) + 1 by omega, show j + 2 + Mine.blanks (b.drop (j + 1)) = (j + 1 + Mine.blanks (b.drop (j + 1))) + 1 by omega, List.drop_succ_cons, List.drop_succ_cons]
        exact h3
    · exact .inl ⟨by simp [Mine.blob, h1], by simp [Mine.blob, h1]⟩
  | gap _ _ _ => exact .inl ⟨by rw [List.replicate_succ, List.cons_append]; rfl, rfl⟩
theorem Col.blob' {a b : List Nat} (h : Col a b) : Col (a.drop (Mine.blob a)) (b.drop (Mine.blob b)) := by
  rcases h.blob with ⟨e1, e2⟩ | ⟨_, _, h⟩
  · rw [e1, e2]; exact h
  · exact h
theorem Col.blobs {a b : List Nat} (h : Col a b) : Col (a.drop (Mine.blobs a)) (b.drop (Mine.blobs b)) := by
  rcases h.blob with ⟨e1, e2⟩ | ⟨p1, p2, h2⟩
  · rw [blobs_zero e1, blobs_zero e2]; exact h
  · rw [blobs_pos p1, blobs_pos p2, ← List.drop_drop, ← List.drop_drop]
    exact Col.blobs h2
termination_by a.length
decreasing_by
  have := blob_le a
  rw [List.length_drop]; omega
theorem Col.pre {a b : List Nat} (h : Col a b) : ∀ {w : List Nat}, 32 ∉ w → (((a.take w.length).map low = w ↔ (b.take w.length).map low = w) ∧ ((a.take w.length).map low = w → Col (a.drop w.length) (b.drop w.length))) := by
  induction h with
  | nil => intro w hw; exact ⟨Iff.rfl, fun _ => by rw [List.drop_nil]; exact .nil⟩
  | @sign c a b hc h ih =>
    intro w hw
    cases w with
    | nil => exact ⟨by simp, fun _ => by simpa using Col.sign hc h⟩
    | cons x w =>
      have hw' : 32 ∉ w := fun hh => hw (List.mem_cons_of_mem _ hh)
      obtain ⟨i1, i2⟩ := ih hw'
      simp only [List.length_cons, List.take_succ_cons, List.map_cons, List.cons.injEq, List.drop_succ_cons]
      exact ⟨⟨fun h => ⟨h.1, i1.mp h.2⟩, fun h => ⟨h.1, i1.mpr h.2⟩⟩, fun h => i2 h.2⟩
  | @gap k a b h1 h2 h3 ih =>
    intro w hw
    cases w with
    | nil => exact ⟨by simp, fun _ => by simpa using Col.gap h1 h2 h3⟩
    | cons x w =>
      have hx : x ≠ 32 := fun hh => hw (by rw [hh]; exact List.mem_cons_self ..)
      have l32 : low 32 = 32 := rfl
      rw [List.replicate_succ, List.cons_append]
      simp only [List.length_cons, List.take_succ_cons, List.map_cons, List.cons.injEq, l32]
      exact ⟨⟨fun h => absurd h.1.symm hx, fun h => absurd h.1.symm hx⟩, fun h => absurd h.1.symm hx⟩
theorem Col.head {a b : List Nat} (h : Col a b) {c : Nat} (hc : c ≠ 32) : a.take 1 = [c] ↔ b.take 1 = [c] := by
  cases h with
  | nil => exact Iff.rfl
  | sign _ _ => simp
  | gap _ _ _ => rw [List.replicate_succ, List.cons_append]; simp [Ne.symm hc]
theorem word_zero {w L : List Nat} (h : ¬ ((L.take w.length).map low = w ∧ (L.drop (w.length + blanks (L.drop w.length) + blob (L.drop (w.length + blanks (L.drop w.length))))).take 1 = [58])) : word w L = 0 := by
  unfold word
  by_cases h1 : (L.take w.length).map low = w
  · rw [if_pos h1]
    dsimp only
    rw [if_neg (fun h2 => h ⟨h1, h2⟩)]
  · rw [if_neg h1]
theorem Col.word {a b w : List Nat} (h : Col a b) (hw : 32 ∉ w) : 0 < Mine.word w a ↔ 0 < Mine.word w b := by
  obtain ⟨p1, p2⟩ := h.pre hw
  by_cases h1 : (a.take w.length).map low = w
  · have h2 := p1.mp h1
    have c1 := (p2 h1).blanks
    rw [List.drop_drop, List.drop_drop] at c1
    have c2 := c1.blob'
    rw [List.drop_drop, List.drop_drop] at c2
    have c3 := c2.head (c := 58) (by decide)
    constructor
    · intro ha
      obtain ⟨x, e, hx, he, g1, g2, g3⟩ := word_cases ha
      subst hx; subst he
      rw [word_of rfl rfl h2 (c3.mp g2)]; omega
    · intro ha
      obtain ⟨x, e, hx, he, g1, g2, g3⟩ := word_cases ha
      subst hx; subst he
      rw [word_of rfl rfl h1 (c3.mpr g2)]; omega
  · have h2 := fun hh => h1 (p1.mpr hh)
    rw [word_zero fun hh => h1 hh.1, word_zero fun hh => h2 hh.1]
theorem lead_zero {L : List Nat} : lead L = 0 ↔ ¬ 0 < word wRe L ∧ ¬ 0 < word wFwd L ∧ ¬ 0 < word wFw L := by
  unfold lead
  constructor
  · intro h
    split at h
    · omega
    · split at h
      · omega
      · exact ⟨by assumption, by assumption, by omega⟩
  · rintro ⟨h1, h2, h3⟩
    rw [if_neg h1, if_neg h2]; omega
theorem Col.lead {a b : List Nat} (h : Col a b) (ha : Mine.lead a = 0) : Mine.lead b = 0 := by
  rw [lead_zero] at ha ⊢
  rw [← h.word (w := wRe) (by decide), ← h.word (w := wFwd) (by decide), ← h.word (w := wFw) (by decide)]
  exact ha
theorem Col.bare {a b : List Nat} (h : Col a b) (ha : bare a) : Mine.bare b := by
  refine ⟨h.blanks0 ha.1, h.blobs.lead ha.2.1, ?_⟩
  rcases h.blob with ⟨_, e2⟩ | ⟨p1, p2, h2⟩
  · exact .inl e2
  · refine .inr ?_
    have e : Mine.blob a = a.length := ha.2.2.resolve_left (by omega)
    have hn : a.drop (Mine.blob a) = [] := by rw [e]; simp
    have hb := congrArg List.length (h2.nil_iff.mp hn)
    have := blob_le b
    rw [List.length_drop, List.length_nil] at hb
    omega
theorem Col.mem {a b : List Nat} (h : Col a b) : ∀ x ∈ b, x ∈ a := by
  induction h with
  | nil => intro x hx; cases hx
  | sign _ _ ih =>
    intro x hx
    rcases List.mem_cons.mp hx with e | hx
    · rw [e]; exact List.mem_cons_self ..
    · exact List.mem_cons_of_mem _ (ih x hx)
  | gap _ _ _ ih =>
    intro x hx
    rcases List.mem_cons.mp hx with e | hx
    · rw [e, List.replicate_succ]; exact List.mem_cons_self ..
    · exact List.mem_append.mpr (.inr (ih x hx))
theorem Col.len {a b : List Nat} (h : Col a b) : b.length ≤ a.length := by
  induction h with
  | nil => exact Nat.le_refl _
  | sign _ _ ih => simp only [List.length_cons]; omega
  | gap _ _ _ ih => simp only [List.length_cons, List.length_append, List.length_replicate]; omega
theorem blanks_app_ne {a b : List Nat} (h : blanks a = 0) (hn : a ≠ []) : blanks (a ++ b) = 0 := by
  cases a with
  | nil => exact absurd rfl hn
  | cons c r =>
    by_cases hc : c = 32
    · subst hc; simp [blanks] at h
    · simp [blanks, hc]
theorem Col.tail {a b : List Nat} (h : Col a b) : Mine.blanks b.reverse = 0 := by
  induction h with
  | nil => rfl
  | @sign c a b hc h ih =>
    rw [List.reverse_cons]
    cases b with
    | nil => simp [Mine.blanks, hc]
    | cons d r => exact blanks_app_ne ih (by simp)
  | @gap k a b h1 h2 h3 ih =>
    rw [List.reverse_cons]
    have hb : b ≠ [] := fun e => h1 (h3.nil_iff.mpr e)
    exact blanks_app_ne ih (by simpa using hb)
theorem wordsB_blank (r : List Nat) : wordsB (32 :: r) = wordsB r := by simp [wordsB, splitB]
theorem wordsB_rep (k : Nat) (a : List Nat) : wordsB (List.replicate k 32 ++ a) = wordsB a := by
  induction k with
  | zero => simp
  | succ k ih => rw [List.replicate_succ, List.cons_append, wordsB_blank, ih]
theorem splitB_sign {c : Nat} {r : List Nat} (hc : c ≠ 32) : ∃ p ps, splitB r = p :: ps ∧ splitB (c :: r) = (c :: p) :: ps := by
  cases h : splitB r with
  | nil => exact absurd h (splitB_ne r)
  | cons p ps => exact ⟨p, ps, rfl, by simp [splitB, hc, h]⟩
theorem wordsB_sign {d : Nat} {r : List Nat} (hd : d ≠ 32) : ∃ p ps, wordsB (d :: r) = (d :: p) :: ps := by
  obtain ⟨p, ps, _, e⟩ := splitB_sign (r := r) hd
  exact ⟨p, ps.filter fun p => !p.isEmpty, by simp [wordsB, e]⟩
theorem sqz_two {c d : Nat} {r : List Nat} (hc : c ≠ 32) (hd : d ≠ 32) : sqz (c :: d :: r) = c :: sqz (d :: r) := by
  obtain ⟨p, ps, e1, e2⟩ := splitB_sign (r := d :: r) hc
  obtain ⟨p', ps', _, e4⟩ := splitB_sign (r := r) hd
  rw [e4] at e1
  cases e1
  unfold sqz wordsB
  rw [e2, e4]
  simp only [List.filter_cons, List.isEmpty_cons, Bool.not_false, if_true]
  cases ps.filter fun p => !p.isEmpty <;> rfl
theorem sqz_gap {c d k : Nat} {r : List Nat} (hc : c ≠ 32) (hd : d ≠ 32) : sqz (c :: (List.replicate (k + 1) 32 ++ (d :: r))) = c :: 32 :: sqz (d :: r) := by
  have e : wordsB (c :: (List.replicate (k + 1) 32 ++ (d :: r))) = [c] :: wordsB (d :: r) := by
    rw [List.replicate_succ, List.cons_append]
    have h1 : splitB (c :: 32 :: (List.replicate k 32 ++ (d :: r))) = [c] :: splitB (List.replicate k 32 ++ (d :: r)) := splitB_app (p := [c]) (by simp [Ne.symm hc]) _
    have h2 := wordsB_rep k (d :: r)
    unfold wordsB at h2 ⊢
    rw [h1, List.filter_cons, h2]
    simp
  obtain ⟨p, ps, e2⟩ := wordsB_sign (r := r) hd
  unfold sqz
  rw [e, e2]
  rfl
theorem col_sqz (a : List Nat) (h1 : blanks a = 0) (h2 : blanks a.reverse = 0) : Col a (sqz a) := by
  match a, h1, h2 with
  | [], _, _ => exact .nil
  | [c], h1, _ =>
    have hc : c ≠ 32 := by intro hh; subst hh; simp [blanks] at h1
    have e : sqz [c] = [c] := by simp [sqz, wordsB, splitB, hc, joinB]
    rw [e]
    exact .sign hc .nil
  | c :: d :: r, h1, h2 =>
    have hc : c ≠ 32 := by intro hh; subst hh; simp [blanks] at h1
    by_cases hd : d = 32
    · have hs := blanks_split (d :: r)
      have hr := blanks_rest (d :: r)
      have hk : ∃ k, blanks (d :: r) = k + 1 := ⟨blanks r, by simp [blanks, hd]⟩
      obtain ⟨k, hk⟩ := hk
      rw [hk] at hs hr
      have hrev : blanks (((d :: r).drop (k + 1)).reverse ++ ((List.replicate (k + 1) 32).reverse ++ [c])) = 0 := by
        rw [← h2, List.reverse_cons, ← List.append_assoc, ← List.reverse_append, ← hs]
      have hrl : ((d :: r).drop (k + 1)).length < (c :: d :: r).length := by simp only [List.length_drop, List.length_cons]; omega
      rw [hs]
      generalize hq : (d :: r).drop (k + 1) = q at *
      cases q with
      | nil =>
        exfalso
        rw [List.reverse_nil, List.nil_append, List.reverse_replicate, blanks_app] at hrev
        omega
      | cons x q =>
        have hx : x ≠ 32 := by intro hh; subst hh; simp [blanks] at hr
        rw [sqz_gap hc hx]
        exact .sign hc (.gap (by simp) hr (col_sqz (x :: q) hr (blanks_pre hrev)))
    · rw [sqz_two hc hd]
      have hrev : blanks (d :: r).reverse = 0 := by
        rw [List.reverse_cons] at h2
        exact blanks_pre h2
      exact .sign hc (col_sqz (d :: r) (by simp [blanks, hd]) hrev)
termination_by a.length
decreasing_by
  · assumption
  · simp only [List.length_cons]; omega
end Mine
end
section
open PySem PySem.W PySem.Calls PyProof.Rows
set_option Elab.async false
namespace Mine
def Signs (l : List Nat) : Prop := ∀ x ∈ l, 32 ≤ x ∧ x < 127 ∧ x ≠ 40
theorem blanks_all {a : List Nat} (h : rstr a = a) : blanks a.reverse = 0 := by
  have h1 := congrArg List.length h
  have h2 := blanks_le a.reverse
  unfold rstr at h1
  rw [List.length_take] at h1
  rw [List.length_reverse] at h2
  omega
theorem rstr_of {a : List Nat} (h : blanks a.reverse = 0) : rstr a = a := by
  unfold rstr
  rw [h, Nat.sub_zero, List.take_length]
theorem rstr_end (l : List Nat) : blanks (rstr l).reverse = 0 := by
  unfold rstr
  rw [List.reverse_take]
  have h2 := blanks_le l.reverse
  rw [List.length_reverse] at h2
  rw [show l.length - (l.length - blanks l.reverse) = blanks l.reverse by omega]
  exact blanks_rest _
theorem law_plain (l : List Nat) (hs : Signs l) (hl : l.length ≤ 100) : ∃ T tk f n c, rstr l = T ∧ T.length ≤ 100 ∧ Signs T ∧ T = tk ++ f ∧ wl T false = (f, c) ∧ Signs f ∧ Signs tk ∧ f.length ≤ 100 ∧ tk.length ≤ 100 ∧ bare f ∧ Reads tk n ∧ c = decide (0 < n) ∧ wl f false = (f, false) ∧ rstr f = f := by
  obtain ⟨n, P, e, hb⟩ := wl_path (rstr l) false
  obtain ⟨tk, e2, R⟩ := P.reads
  have hT : (rstr l).length ≤ 100 := by unfold rstr; rw [List.length_take]; omega
  have hsT : Signs (rstr l) := fun x hx => hs x (List.mem_of_mem_take hx)
  have hrev := rstr_end l
  have hlen := congrArg List.length e2
  rw [List.length_append] at hlen
  refine ⟨rstr l, tk, (wl (rstr l) false).1, n, (wl (rstr l) false).2, rfl, hT, hsT, e2, rfl, ?_, ?_, by omega, by omega, hb, R, by simpa using e, wl_bare hb, rstr_of ?_⟩
  · intro x hx
    exact hsT x (by rw [e2]; exact List.mem_append.mpr (.inr hx))
  · intro x hx
    exact hsT x (by rw [e2]; exact List.mem_append.mpr (.inl hx))
  · rw [e2, List.reverse_append] at hrev
    exact blanks_pre hrev
theorem base_plain {f : List Nat} (hs : Signs f) (hl : f.length ≤ 100) (hb : bare f) (hr : rstr f = f) : Signs (sqz f) ∧ (sqz f).length ≤ 100 ∧ rstr (sqz f) = sqz f ∧ bare (sqz f) ∧ (((f.take 5).map low = [91, 102, 119, 100, 58]) ↔ ((sqz f).take 5).map low = [91, 102, 119, 100, 58]) := by
  have C := col_sqz f hb.1 (blanks_all hr)
  refine ⟨fun x hx => hs x (C.mem x hx), Nat.le_trans C.len hl, rstr_of C.tail, C.bare hb, ?_⟩
  exact (C.pre (w := [91, 102, 119, 100, 58]) (by decide)).1
theorem fin_words (l : List Nat) : ∀ (ws : List Str) (r : List Nat), Signs l → 32 ∉ r → KWd.fin (l.foldl KWd.step (ws, mkS r)) = ws ++ (wordsB (r ++ l)).map mkS := by
  induction l with
  | nil =>
    intro ws r _ hr
    rw [List.append_nil]
    simp only [List.foldl_nil, KWd.fin, length_mkS]
    unfold wordsB
    rw [splitB_free hr]
    cases r with
    | nil => simp
    | cons c r => simp
  | cons c l ih =>
    intro ws r hs hr
    have hc := hs c (List.mem_cons_self ..)
    have hs' : Signs l := fun x hx => hs x (List.mem_cons_of_mem _ hx)
    rw [List.foldl_cons]
    by_cases h : c = 32
    · subst h
      have hsp : Unicode.isSpace 32 = true := by decide
      have e1 : wordsB (r ++ 32 :: l) = (if r.length = 0 then [] else [r]) ++ wordsB l := by
        unfold wordsB
        rw [splitB_app hr, List.filter_cons]
        cases r <;> simp
      rw [e1]
      unfold KWd.step
      rw [if_pos hsp]
      by_cases hz : r.length = 0
      · have : r = [] := List.eq_nil_of_length_eq_zero hz
        subst this
        rw [if_pos (by rw [length_mkS]; rfl)]
        have := ih ws [] hs' (by simp)
        unfold KWd.step at this
        rw [this]; simp
      · rw [if_neg (by rw [length_mkS]; exact hz), if_neg hz]
        have := ih (ws ++ [mkS r]) [] hs' (by simp)
        unfold KWd.step at this
        show KWd.fin (List.foldl _ (ws ++ [mkS r], mkS []) l) = _
        rw [this]; simp
    · have hsp : Unicode.isSpace c = false := KWk.nosp (by omega) (by omega)
      have e1 : KWd.step (ws, mkS r) c = (ws, mkS (r ++ [c])) := by
        unfold KWd.step
        rw [if_neg (by rw [hsp]; exact Bool.false_ne_true)]
        show (ws, mkS r ++ ⟨#[c]⟩) = _
        have : mkS r ++ (⟨#[c]⟩ : Str) = mkS (r ++ [c]) := by
          show (⟨r.toArray ++ #[c]⟩ : Str) = ⟨(r ++ [c]).toArray⟩
          simp
        rw [this]
      rw [e1, ih ws (r ++ [c]) hs' (by simp [hr]; exact fun h' => h h'.symm)]
      simp
theorem words_f {f : List Nat} (hs : Signs f) : Txt.words (mkS f) = (wordsB f).map mkS := by
  have h := fin_words f [] [] hs (by simp)
  rw [KWd.words_of (x := mkS f) (ws := (f.foldl KWd.step ([], mkS [])).1) (r := (f.foldl KWd.step ([], mkS [])).2) rfl]
  simpa [KWd.fin] using h
theorem fwd_found {f : List Nat} (hn : (Builtin.Str.occurrences (mkS (f.map low)) (Str.ofString "[fwd:") 0 (mkS (f.map low)).length 1).isEmpty = true) : (f.take 5).map low ≠ [91, 102, 119, 100, 58] := by
  intro h
  have hf := (StrLaws.found_iff (mkS (f.map low)) (Str.ofString "[fwd:")).mpr ⟨0, ?_, ?_⟩
  · rw [hn] at hf; cases hf
  · have := congrArg List.length h
    rw [List.length_map, List.length_take] at this
    have e : (Str.ofString "[fwd:").length = 5 := by decide
    rw [e, length_mkS, List.length_map]
    simp at this; omega
  · rw [StrLaws.subAt_eq, List.drop_zero, cps_mkS, show (Str.ofString "[fwd:").length = 5 by decide, show (Str.ofString "[fwd:").cps.toList = [91, 102, 119, 100, 58] by decide, ← List.map_take, h]
    rfl
end Mine
end
section
open PySem PySem.W PySem.Calls PyProof.Rows
set_option Elab.async false
namespace Mine
local macro_rules | `(tactic| walk_at "my steps") => `(tactic| repeat' ((fail_if_success (with_reducible show wpAny _ _ (exec (Stmt.While _ _ _ _) _) _ _ _)); (fail_if_success (with_reducible show wpAny _ _ (exec (Stmt.For _ _ _ _ _) _) _ _ _)); (fail_if_success (with_reducible show wpAny _ _ (pyIter _) _ _ _)); first | (k_unfold; (try dsimp only)) | (k_end; wrow_close) | walk1 | (dsimp only; walk1) | (leave1; walk_say "STEP leave1"; try dsimp only) | fail "no step"))
local macro_rules | `(tactic| walk_at "my in") => `(tactic| (intro p hp; first | exact hp | exact List.mem_append.mpr (.inl hp) | exact List.mem_append.mpr (.inr hp) | exact List.mem_cons_of_mem _ hp | exact List.mem_cons_of_mem _ (List.mem_cons_of_mem _ hp) | exact List.mem_cons_of_mem _ (List.mem_cons_of_mem _ (List.mem_cons_of_mem _ hp))))
theorem app_mk (a b : List Nat) : mkS a ++ mkS b = mkS (a ++ b) := by
  show (⟨a.toArray ++ b.toArray⟩ : Str) = ⟨(a ++ b).toArray⟩
  simp
theorem add_mk {prog : Program} {w : World} {A : Around} {E : Value → Shared → Prop} {s : Shared} {a b : List Nat} {t u : Tok} {Q : Value → Shared → Prop} (h : ∀ t' tk, Q (.str (mkS (a ++ b)) t') { s with toks := tk }) (hsz : a.length + b.length ≤ 100000) :
    wpAny (model prog w) A (binaryOp .Add (.str (mkS a) t) (.str (mkS b) u)) Q E s :=
  PyProof.Rows.add_str (fun t' tk => by rw [app_mk]; exact h t' tk) (by rw [sizeLine_eq, length_mkS, length_mkS]; omega)
theorem lt_fst {P d : Addr} {o : Obj} {r : Led} (h : ∀ p ∈ (P, o) :: r, p.1 < d) : P < d := h _ (List.mem_cons_self ..)
theorem lt_snd {P d : Addr} {o : Obj} {a : Addr × Obj} {r : Led} (h : ∀ p ∈ a :: (P, o) :: r, p.1 < d) : P < d := h _ (List.mem_cons_of_mem _ (List.mem_cons_self ..))
theorem lt_A {P d : Addr} {X : Prop} (h : P < d ∧ X) : P < d := h.1
theorem lt_B {P d : Addr} {X Y : Prop} (h : X ∧ P < d ∧ Y) : P < d := h.2.1
structure LSt where
  vs : List Value
  ns : List Int
  st : Int
  pl : Int
  ts : Tok
  tp : Tok
  kp : Nat
  kc : Nat
  l : List Nat
  tt : Tok
abbrev ledOf (P C : Addr) (c : LSt) : Led := [(P, { cls := .type "list", data := .seq #[.ref C, .int c.st c.ts, .int c.pl c.tp] c.kp }), (C, { cls := .type "list", data := .seq c.vs.toArray c.kc })]
theorem signs_app {a b : List Nat} (h : Signs a) (g : Signs b) : Signs (a ++ b) := fun x hx => (List.mem_append.mp hx).elim (h x) (g x)
theorem Piece.signs {l : List Nat} (h : Piece l) : Signs l := h.2
def okSt (B : Int) (n : Nat) (pre : List Int) (c : LSt) : Prop := PotOK c.vs c.ns c.st ∧ 0 ≤ c.pl ∧ c.pl ≤ B + (pre.length : Nat) ∧ Signs c.l ∧ c.l.length ≤ n + 9 * pre.length
theorem own_off {P C : Addr} {c : LSt} {own : Led} (h : OwnOff own ((ledOf P C c).map (·.1))) : ∀ p ∈ own, p.1 ≠ P ∧ p.1 ≠ C := fun p hp => ⟨h p hp P (by simp), h p hp C (by simp)⟩
theorem draw_end {P C d : Addr} {od : Obj} {c₀ : LSt} {B : Int} {n : Nat} {pre : List Int} {k : Int} {own : Led} {h₀ h' : Heap} {L : Addr} {x : Str} {m₀ m' : Str → Option Value} {s₁ : Shared} {tk : Nat} {vs : List Value} {ns : List Int} {st pl : Int} {ts tp tt : Tok} {kp kc : Nat} {l : List Nat}
    (F : Fr h₀ L h' m') (N : News h₀ L h' ((d, od) :: (P, { cls := .type "list", data := .seq #[.ref C, .int st ts, .int pl tp] kp }) :: (C, { cls := .type "list", data := .seq vs.toArray kc }) :: own))
    (hk : ∀ p ∈ [(Str.ofString "text", Value.str (mkS l) tt)], m' p.1 = some p.2) (hr : ∀ z, z ≠ x → (∀ p ∈ [(Str.ofString "text", Value.str (mkS l) tt)], z ≠ p.1) → ([] : List Str).contains z = false → m' z = m₀ z)
    (ok : PotOK vs ns st) (h0 : 0 ≤ pl) (h1 : pl ≤ B + (pre.length : Nat) + 1) (hs : Signs l) (hl : l.length ≤ n + 9 * pre.length + 9) :
    InvEndN h₀ L (KstS (ledOf P C) (fun c => [(Str.ofString "text", .str (mkS c.l) c.tt)]) (fun _ => True) x [] m₀ (okSt B n) (pre ++ [k])) own ((ledOf P C c₀).map (·.1)) s₁ { s₁ with heap := h', toks := tk } :=
  kst_end (⟨vs, ns, st, pl, ts, tp, kp, kc, l, tt⟩ : LSt) F N (fun p hp => List.mem_cons_of_mem _ (by
    rcases List.mem_cons.mp hp with e | hp
    · rw [e]; exact List.mem_cons_self ..
    · rw [List.mem_singleton.mp hp]; exact List.mem_cons_of_mem _ (List.mem_cons_self ..)))
    (fun p hp => List.mem_cons_of_mem _ (List.mem_cons_of_mem _ (List.mem_cons_of_mem _ hp))) rfl trivial hk hr
    ⟨ok, h0, (by show pl ≤ B + ((pre ++ [k]).length : Nat); rw [List.length_append, List.length_singleton]; omega), hs, (by show l.length ≤ n + 9 * (pre ++ [k]).length; rw [List.length_append, List.length_singleton]; omega)⟩
theorem rsize {r : Int} (h : 0 ≤ r) : Builtin.Range.rangeSize 0 r 1 = ((r.toNat : Nat) : Int) := by
  rw [rangeSize_one]; split <;> omega
local macro_rules | `(tactic| walk_at "call ref") => `(tactic| (k_here; (with_reducible show wpAny _ _ (call (Value.ref 79) _) _ _ _); (k_dflt (refine' law_pot_ _ _ _ _ _ _ _ _ _ _ _ _ _ _ _ _ _ _ _ _ _ _ _ _ ?k1 ?k2 ?k3 ?k4 ?k5 ?k6 ?k7 ?k8 ?k9 ?kA ?kB ?_; (case k1 => k_asm); (case k2 => k_asm); (case k3 => k_asm); (case k4 => k_asm); (case k5 => k_asm); (case k6 => first | exact rfl | assumption); (case k7 => ktr_room); (case k8 => ktr_units); (case k9 => k_asm); (case kA => k_asm); (case kB => k_dflt (first | assumption | omega)))); intro _ _ _ _ _ _ _ _ _ _ _ _ _ _ _; (try dsimp only [potL] at *)))
local macro_rules | `(tactic| walk_at "call ref") => `(tactic| (k_here; (with_reducible show wpAny _ _ (call (Value.ref 86) _) _ _ _); (k_dflt (first
  | (refine' Draws.useA (law_draw_ _ _ (by decide) (by decide)) ?k1 ?k2 ?k3 ?k4 ?k5 ?k6 ?k7 ?k8 ?k9 ?kA ?kB ?kC ?kD ?_; (case k1 => k_asm); (case k2 => k_asm); (case k3 => k_asm); (case k4 => k_asm); (case k5 => k_asm); (case k6 => first | exact rfl | assumption); (case k7 => ktr_room); (case k8 => ktr_units); (case k9 => k_asm); (case kA => walk_at "my off"); (case kB => k_asm); (case kC => omega); (case kD => omega))
  | (refine' Draws.useB (law_draw_ _ _ (by decide) (by decide)) ?k1 ?k2 ?k3 ?k4 ?k5 ?k6 ?k7 ?k8 ?k9 ?kE ?kF ?kA ?kB ?kC ?kD ?_; (case k1 => k_asm); (case k2 => k_asm); (case k3 => k_asm); (case k4 => k_asm); (case k5 => k_asm); (case k6 => first | exact rfl | assumption); (case k7 => ktr_room); (case k8 => ktr_units); (case k9 => k_asm); (case kE => walk_at "my lt"); (case kF => walk_at "my lt"); (case kA => walk_at "my off"); (case kB => k_asm); (case kC => omega); (case kD => omega)))); intro _ _ _ _ _ _ _ _ _ _ _ _ _ _ _ _))
local macro_rules | `(tactic| walk_at "my off") => `(tactic| first | assumption | exact fun _ h => nomatch h)
local macro_rules | `(tactic| walk_at "my lt") => `(tactic| first | exact lt_A (by assumption) | exact lt_B (by assumption) | exact lt_fst (by assumption) | exact lt_snd (by assumption))
local macro_rules | `(tactic| walk_at "subscriptTail") => `(tactic| (k_here; (with_reducible show wpAny _ _ (subscriptTail _ _ (Value.ref _) (Value.int _ _)) _ _ _); k_dflt (refine' sub_pieces ?k1 ?k2 ?k3 ?k4 ?k5 ?k6 ?_ ?k7; (case k1 => k_asm); (case k2 => exact List.mem_cons_self ..); (case k3 => first | assumption | ((repeat (refine pieces_cons' (by decide) ?_)); exact pieces_nil)); (case k4 => omega); (case k5 => first | omega | ((simp only [List.length_cons, List.length_nil]); omega)); (case k6 => omega); (case k7 => with_unfolding_all rfl)); intro _ _ pc; (have pcl := pc.1)))
local macro_rules | `(tactic| walk_at "binaryOp Add str str") => `(tactic| (k_here; (with_reducible show wpAny _ _ (binaryOp Operator.Add (Value.str (mkS _) _) (Value.str (mkS _) _)) _ _ _); (refine' add_mk ?_ ?k1; (case k1 => omega)); intro _ _))
local macro_rules | `(tactic| walk_at "call ref") => `(tactic| (k_here; (with_reducible show wpAny _ _ (call (Value.ref 93) _) _ _ _); (first | (k_dflt (refine' Says.useW (law_words_ _ _) ?k1 ?k2 ?k3 ?k4 ?k5 ?k6 ?k7 ?k8 ?_; (case k1 => k_asm); (case k2 => k_asm); (case k3 => k_asm); (case k4 => k_asm); (case k5 => k_asm); (case k6 => first | exact rfl | assumption); (case k7 => ktr_room); (case k8 => ktr_units)))); intro _ _ _ _ _ _ _ _ _ _; (try dsimp only)))
theorem without_leaders_f (w : World) (l f : List Nat) (c : Bool) (tx : Tok) (news : Led) (hx : l.length ≤ 100) (ha : Signs l) (hb : wl l false = (f, c)) :
    Says w 67 4 [.str (mkS l) tx] news (OutP f c) := by
  have := without_leaders_ w l tx news (by omega) (fun d hd => by have := ha d hd; omega)
  rw [hb] at this
  exact this
theorem signs_ascii {l : List Nat} (h : Signs l) : (mkS l).cps.all (· < 128) = true := ascii_mkS fun d hd => by have := h d hd; omega
theorem law_is_bare_f (w : World) (f : List Nat) (tx : Tok) (news : Led) (hx : f.length ≤ 100) (ha : Signs f) (hb : bare f) : Says w 119 3 [.str (mkS f) tx] news (OutB true) :=
  law_is_bare_ w (mkS f) tx news (by rw [length_mkS]; omega) (signs_ascii ha) hb
theorem law_leaders_in_f (w : World) (f : List Nat) (n : Nat) (tx : Tok) (news : Led) (hx : f.length ≤ 100) (ha : Signs f) (hb : Reads f n) : Says w 112 3 [.str (mkS f) tx] news (OutI (n : Nat)) :=
  law_leaders_in_ w (mkS f) tx n news (by rw [length_mkS]; omega) (signs_ascii ha) hb
section
variable {prog : Program} {w : World} {A : Around} {E : Value → Shared → Prop} {s : Shared} {value slice : Expr} {l T tk f : List Nat} {y : Str} {t u : Tok} {h₀ : Heap} {L : Addr} {m : Str → Option Value} {news : List (Addr × Obj)} {Q : Value → Shared → Prop}
theorem rstrip_r (hT : rstr l = T) (hy : y = mkS [32]) (hsz : l.length ≤ 100) (h : ∀ t' k, Q (.str (mkS T) t') { s with toks := k }) : wpAny (model prog w) A (call (.builtin "str.rstrip") [.str (mkS l) t, .str y u]) Q E s := by
  refine rstrip_ hy (by rw [length_mkS]; omega) ?_
  rw [hT]; exact h
theorem slice_tk {j : Int} {ui : Tok} (hT : T = tk ++ f) (hj : j = (T.length : Nat) - (f.length : Nat)) (hF : Fr h₀ L s.heap m) (hN : News h₀ L s.heap news) (hsz : T.length ≤ 100) (h : ∀ h' t' k, Fr h₀ L h' m → News h₀ L h' news → Q (.str (mkS tk) t') { s with heap := h', toks := k })
    (hs : subscripted slice false (.str (mkS T) t) (.ref s.heap.objs.size) = operate [.ref s.heap.objs.size, .str (mkS T) t] (getItem (.str (mkS T) t) (.ref s.heap.objs.size)) := by with_unfolding_all rfl)
    (ht : ∀ r, letTemporaryGo value (.str (mkS T) t) r = pure () := by intro _; with_unfolding_all rfl) :
    wpAny (model prog w) A (subscriptTail value slice (.str (mkS T) t) (.ref s.heap.objs.size)) Q E { s with heap := s.heap.push { cls := .type "slice", data := .fields #[.none, .int j ui, .none] } } := by
  have e : j = ((tk.length : Nat) : Int) := by rw [hj, hT, List.length_append]; omega
  subst e
  refine slice_ns_ hF hN (by rw [length_mkS]; omega) (fun h' t' k F N => ?_) hs ht
  have e2 : T.take tk.length = tk := by rw [hT]; simp
  rw [e2]; exact h h' t' k F N
end
local macro_rules | `(tactic| walk_at "call builtin:str.rstrip") => `(tactic| ((show wpAny _ _ (call (Value.builtin "str.rstrip") [Value.str (mkS _) _, Value.str _ _]) _ _ _); (refine rstrip_r (by assumption) (by decide) (by assumption) ?_); intro _ _))
local macro_rules | `(tactic| walk_at "call builtin:len") => `(tactic| ((show wpAny _ _ (call (Value.builtin "len") [Value.str (mkS _) _]) _ _ _); (refine len_ (by rw [length_mkS]; omega) ?_)))
local macro_rules | `(tactic| walk_at "subscriptTail Name Slice str ref") => `(tactic| ((with_reducible show wpAny _ _ (subscriptTail _ (Expr.Slice none (some _) none _) (Value.str (mkS _) _) _) _ _ _); (with_reducible rename Fr _ _ _ _ => F'); (with_reducible rename News _ _ _ _ => N'); (refine slice_tk (s := ⟨_, _, _, _, _⟩) (by assumption) rfl F' N' (by assumption) ?_); intro _ _ _ _ _))
local macro_rules | `(tactic| walk_at "call ref") => `(tactic| (k_here; (with_reducible show wpAny _ _ (call (Value.ref 67) _) _ _ _); (first | (k_dflt (refine' Says.useP (z := (_, _)) (without_leaders_f _ _ _ _ _ _ (by assumption) (by assumption) (by assumption)) ?k1 ?k2 ?k3 ?k4 ?k5 ?k6 ?k7 ?k8 ?_; (case k1 => k_asm); (case k2 => k_asm); (case k3 => k_asm); (case k4 => k_asm); (case k5 => k_asm); (case k6 => first | exact rfl | assumption); (case k7 => ktr_room); (case k8 => ktr_units)))); intro _ _ _ _ _ _; (try dsimp only)))
local macro_rules | `(tactic| walk_at "call ref") => `(tactic| (k_here; (with_reducible show wpAny _ _ (call (Value.ref 119) _) _ _ _); (first | (k_dflt (refine' Says.useB (law_is_bare_f _ _ _ _ (by assumption) (by assumption) (by assumption)) ?k1 ?k2 ?k3 ?k4 ?k5 ?k6 ?k7 ?k8 ?_; (case k1 => k_asm); (case k2 => k_asm); (case k3 => k_asm); (case k4 => k_asm); (case k5 => k_asm); (case k6 => first | exact rfl | assumption); (case k7 => ktr_room); (case k8 => ktr_units)))); intro _ _ _ _ _; (try dsimp only)))
local macro_rules | `(tactic| walk_at "call ref") => `(tactic| (k_here; (with_reducible show wpAny _ _ (call (Value.ref 112) _) _ _ _); (first | (k_dflt (refine' Says.useI (law_leaders_in_f _ _ _ _ _ (by assumption) (by assumption) (by assumption)) ?k1 ?k2 ?k3 ?k4 ?k5 ?k6 ?k7 ?k8 ?_; (case k1 => k_asm); (case k2 => k_asm); (case k3 => k_asm); (case k4 => k_asm); (case k5 => k_asm); (case k6 => first | exact rfl | assumption); (case k7 => ktr_room); (case k8 => ktr_units)))); intro _ _ _ _ _; (try dsimp only)))
theorem lo1_low (c : Nat) : PyProof.Rows.lo1 c = low c := rfl
theorem lower_f {prog : Program} {w : World} {A : Around} {E : Value → Shared → Prop} {s : Shared} {f : List Nat} {t : Tok} {Q : Value → Shared → Prop} (hs : Signs f) (hl : f.length ≤ 100) (h : ∀ t' k, Q (.str (mkS (f.map low)) t') { s with toks := k }) : wpAny (model prog w) A (call (.builtin "str.lower") [.str (mkS f) t]) Q E s :=
  SCL.lower (by rw [length_mkS]; omega) fun _ => by
    rw [PyProof.Rows.lower_ascii (x := mkS f) (fun c hc => by have := hs c hc; omega)]
    have e : (⟨(mkS f).cps.map PyProof.Rows.lo1⟩ : Str) = mkS (f.map low) := by
      show (⟨f.toArray.map PyProof.Rows.lo1⟩ : Str) = ⟨(f.map low).toArray⟩
      rw [show PyProof.Rows.lo1 = low from rfl]; simp
    rw [e]; exact h _ _
theorem base_subject_f (w : World) (f : List Nat) (tx : Tok) (news : Led) (hx : f.length ≤ 100) (hs : Signs f) (hb : bare f) (hr : rstr f = f) (hn : (Builtin.Str.occurrences (mkS (f.map low)) (Str.ofString "[fwd:") 0 (mkS (f.map low)).length 1).isEmpty = true) : Says w 74 5 [.str (mkS f) tx] news (OutP (sqz f) false) := by
  obtain ⟨h1, h2, h3, h4, h5⟩ := base_plain hs hx hb hr
  exact base_subject_ w f (sqz f) tx news (by omega) (fun c hc => by have := hs c hc; omega) (fun c hc => by have := hs c hc; omega) (by omega) (fun c hc => by have := h1 c hc; omega) (fun hc => (h1 40 hc).2.2 rfl) h3 (by omega) (fun c hc => by have := h1 c hc; omega) (wl_bare h4) (fun hh => fwd_found hn (h5.mpr hh))
theorem split_f {prog : Program} {w : World} {A : Around} {E : Value → Shared → Prop} {s : Shared} {f : List Nat} {t : Tok} {Q : Value → Shared → Prop} {h₀ : Heap} {L : Addr} {m : Str → Option Value} {news : Led} (hF : Fr h₀ L s.heap m) (hN : News h₀ L s.heap news) (hs : Signs f) (hl : f.length ≤ 100)
    (h : ∀ D vs h' k, Fr h₀ L h' m → News h₀ L h' ((D, { cls := .type "list", data := .seq vs.toArray }) :: news) → StrsAre vs ((wordsB f).map mkS) → Q (.ref D) { s with heap := h', toks := k }) :
    wpAny (model prog w) A (call (.builtin "str.split") [.str (mkS f) t]) Q E s :=
  splitN0 hF hN (fun l h' k e F N => h _ _ h' k F N (by
    have := strsAre_of_values l
    rw [e, words_f hs] at this
    exact this)) (by rw [sizeLine_eq, length_mkS]; omega)
theorem join_f {prog : Program} {w : World} {A : Around} {E : Value → Shared → Prop} {s : Shared} {f : List Nat} {t : Tok} {Q : Value → Shared → Prop} {h₀ : Heap} {L D : Addr} {y : Str} {vs : List Value} {news : Led} (hN : News h₀ L s.heap ((D, { cls := .type "list", data := .seq vs.toArray }) :: news)) (hy : y = mkS [32]) (hi : StrsAre vs ((wordsB f).map mkS)) (hl : f.length ≤ 100)
    (h : ∀ t' k, Q (.str (mkS (sqz f)) t') { s with toks := k }) :
    wpAny (model prog w) A (call (.builtin "str.join") [.str y t, .ref D]) Q E s := by
  subst hy
  refine join_listW (ys := (wordsB f).map mkS) (News.isList hN (List.mem_cons_self ..)) hi (by decide) ?_ (fun t' k => ?_)
  · have := words_weight f
    rw [List.map_map, List.length_map]
    have e : (Str.length ∘ mkS) = List.length := by funext p; exact length_mkS p
    rw [e]; omega
  · rw [join_B]; exact h t' k
section
variable {prog : Program} {w : World} {A : Around} {E : Value → Shared → Prop} {s : Shared} {l : List Nat} {b : Bool} {t t' : Tok} {Q : Value → Shared → Prop} {h₀ : Heap} {L q D : Addr} {news : Led}
theorem pair_shaped {l : List Nat} (hs : Signs l) (b : Bool) : SeqAt.shaped (.tuple [.str (mkS l), .bool b]) = true := by
  have : PyData.strOk (mkS l) = true := by
    unfold PyData.strOk
    rw [Array.all_eq_true']
    intro c hc
    have h1 : c ∈ l := by simpa [mkS] using hc
    have := hs c h1
    simp; omega
  simp [SeqAt.shaped, PyData.canLay0, PyData.canLayAll0, PyData.depth, PyData.depthAll, this]
theorem pair_eq (N : News h₀ L s.heap news) (ha : (q, tupObj [.str (mkS l) t, .bool b]) ∈ news) (hb : (D, tupObj [.str (mkS l) t', .bool b]) ∈ news) (hs : Signs l) (hu : A.units + 64 < cLine) (h : Q (.bool true) s) :
    wpAny (model prog w) A (compareOp .Eq (.ref q) (.ref D)) Q E s := by
  refine eq_dataH (da := .tuple [.str (mkS l), .bool b]) (db := .tuple [.str (mkS l), .bool b]) (reads_tuple_at (News.get N ha) rfl rfl (.cons (Reads.str _ _) (.cons (Reads.bool _) .nil))) (reads_tuple_at (News.get N hb) rfl rfl (.cons (Reads.str _ _) (.cons (Reads.bool _) .nil))) (pair_shaped hs _) (pair_shaped hs _) hu ?_
  simpa [PyData.eqv, PyData.eqvAll] using h
theorem pair_ne (N : News h₀ L s.heap news) (ha : (q, tupObj [.str (mkS l) t, .bool b]) ∈ news) (hb : (D, tupObj [.str (mkS l) t', .bool b]) ∈ news) (hs : Signs l) (hu : A.units + 64 < cLine) (h : Q (.bool false) s) :
    wpAny (model prog w) A (compareOp .NotEq (.ref q) (.ref D)) Q E s := by
  refine ne_dataH (da := .tuple [.str (mkS l), .bool b]) (db := .tuple [.str (mkS l), .bool b]) (reads_tuple_at (News.get N ha) rfl rfl (.cons (Reads.str _ _) (.cons (Reads.bool _) .nil))) (reads_tuple_at (News.get N hb) rfl rfl (.cons (Reads.str _ _) (.cons (Reads.bool _) .nil))) (pair_shaped hs _) (pair_shaped hs _) hu ?_
  simpa [PyData.eqv, PyData.eqvAll] using h
end
local macro_rules | `(tactic| walk_at "compareOp Eq ref ref") => `(tactic| (k_here; (with_reducible show wpAny _ _ (compareOp CmpOp.Eq (Value.ref _) (Value.ref _)) _ _ _); (k_dflt (refine' pair_eq ?k1 (.tail _ (.head _)) (.head _) ?k2 ?k3 ?_; (case k1 => k_asm); (case k2 => assumption); (case k3 => ke_room)))))
local macro_rules | `(tactic| walk_at "compareOp NotEq ref ref") => `(tactic| (k_here; (with_reducible show wpAny _ _ (compareOp CmpOp.NotEq (Value.ref _) (Value.ref _)) _ _ _); (k_dflt (refine' pair_ne ?k1 (.tail _ (.tail _ (.head _))) (.head _) ?k2 ?k3 ?_; (case k1 => k_asm); (case k2 => exact (base_plain (by assumption) (by assumption) (by assumption) (by assumption)).1); (case k3 => ke_room)))))
theorem no_raise (args : List WData) : ∀ cls, Challenge.rw_or0026_01.row.claim.raises args cls = false := by
  intro cls
  rfl
set_option maxRecDepth 100000 in
theorem post_true (ns : List Int) (hcond : ¬ ((63 : Nat) : Int) < (ns.length : Nat)) : Challenge.rw_or0026_01.row.claim.post [ofPy (PyData.list (List.map PyData.int ns))] (.bool true) [ofPy (PyData.list (List.map PyData.int ns))] = true := by
  w_on
  wrow_post
theorem flag_absurd {c : Bool} {n : Nat} (hc : c = decide (0 < n)) (h : (c == decide ((0 : Int) < (n : Nat))) = false) : False := by
  have e : decide ((0 : Int) < (n : Nat)) = decide (0 < n) := by
    by_cases hn : 0 < n
    · have : (0 : Int) < (n : Nat) := by omega
      simp [hn, this]
    · have : ¬ (0 : Int) < (n : Nat) := by omega
      simp [hn, this]
  rw [e, hc] at h
  simp at h
theorem add_T {prog : Program} {w : World} {A : Around} {E : Value → Shared → Prop} {s : Shared} {a b T : List Nat} {t u : Tok} {Q : Value → Shared → Prop} (hT : T = a ++ b) (hsz : T.length ≤ 100) (h : ∀ t' tk, Q (.str (mkS T) t') { s with toks := tk }) :
    wpAny (model prog w) A (binaryOp .Add (.str (mkS a) t) (.str (mkS b) u)) Q E s := by
  have hl : a.length + b.length ≤ 100 := by rw [← List.length_append, ← hT]; exact hsz
  refine add_mk ?_ (by omega)
  rw [← hT]; exact h
theorem ne_self {prog : Program} {w : World} {A : Around} {E : Value → Shared → Prop} {s : Shared} {x : Str} {t u : Tok} {Q : Value → Shared → Prop} (h : Q (.bool false) s) :
    wpAny (model prog w) A (compareOp .NotEq (.str x t) (.str x u)) Q E s := by
  refine ne_str ?_
  simpa using h
local macro_rules | `(tactic| walk_at "binaryOp Add str str") => `(tactic| (k_here; (with_reducible show wpAny _ _ (binaryOp Operator.Add (Value.str (mkS _) _) (Value.str (mkS _) _)) _ _ _); (refine add_T (by assumption) (by assumption) ?_); intro _ _))
local macro_rules | `(tactic| walk_at "compareOp NotEq str str") => `(tactic| (k_here; (refine ne_self ?_)))
theorem no_paren {f : List Nat} (hs : Signs f) : (Builtin.Str.occurrences (mkS (f.map low)) (Str.ofString "(fwd)") 0 (mkS (f.map low)).length 1).isEmpty = true := by
  apply Classical.byContradiction
  intro hn
  obtain ⟨i, _, hi⟩ := (StrLaws.found_iff (mkS (f.map low)) (Str.ofString "(fwd)")).mp (by simpa using hn)
  rw [StrLaws.subAt_eq, show (Str.ofString "(fwd)").cps.toList = [40, 102, 119, 100, 41] by decide, cps_mkS] at hi
  have h1 : 40 ∈ ((f.map low).drop i).take (Str.ofString "(fwd)").length := by rw [eq_of_beq hi]; exact List.mem_cons_self ..
  obtain ⟨c, hc, e⟩ := List.mem_map.mp (List.mem_of_mem_drop (List.mem_of_mem_take h1))
  have h2 := hs c hc
  unfold low at e
  split at e <;> omega
theorem notin_paren {prog : Program} {w : World} {A : Around} {E : Value → Shared → Prop} {s : Shared} {f : List Nat} {t u : Tok} {Q : Value → Shared → Prop} (hs : Signs f) (h : Q (.bool true) s) :
    wpAny (model prog w) A (compareOp .NotIn (.str (Str.ofString "(fwd)") t) (.str (mkS (f.map low)) u)) Q E s :=
  notIn_str (by rw [no_paren hs]; exact h)
local macro_rules | `(tactic| walk_at "compareOp NotIn str str") => `(tactic| (k_here; (refine notin_paren (by assumption) ?_)))
local macro_rules | `(tactic| walk_at "call builtin:str.lower") => `(tactic| (k_here; (show wpAny _ _ (call (Value.builtin "str.lower") [Value.str (mkS _) _]) _ _ _); (refine lower_f (by assumption) (by assumption) ?_); intro _ _))
local macro_rules | `(tactic| walk_at "call builtin:str.split") => `(tactic| (k_here; (show wpAny _ _ (call (Value.builtin "str.split") [Value.str (mkS _) _]) _ _ _); (refine split_f (by k_asm) (by k_asm) (by assumption) (by assumption) ?_); intro _ _ _ _ _ _ _))
local macro_rules | `(tactic| walk_at "call builtin:str.join") => `(tactic| (k_here; (show wpAny _ _ (call (Value.builtin "str.join") [Value.str _ _, Value.ref _]) _ _ _); (refine join_f (by assumption) (by decide) (by assumption) (by assumption) ?_); intro _ _))
local macro_rules | `(tactic| walk_at "call ref") => `(tactic| (k_here; (with_reducible show wpAny _ _ (call (Value.ref 74) _) _ _ _); (first | (k_dflt (refine' Says.useP (z := (_, false)) (base_subject_f _ _ _ _ (by assumption) (by assumption) (by assumption) (by assumption) (by assumption)) ?k1 ?k2 ?k3 ?k4 ?k5 ?k6 ?k7 ?k8 ?_; (case k1 => k_asm); (case k2 => k_asm); (case k3 => k_asm); (case k4 => k_asm); (case k5 => k_asm); (case k6 => first | exact rfl | assumption); (case k7 => ktr_room); (case k8 => ktr_units)))); intro _ _ _ _ _ _; (try dsimp only)))
local macro_rules | `(tactic| walk_at "my steps2") => `(tactic| repeat' ((fail_if_success (with_reducible show wpAny _ _ (exec (Stmt.While _ _ _ _) _) _ _ _)); (fail_if_success (with_reducible show wpAny _ _ (exec (Stmt.For _ _ _ _ _) _) _ _ _)); (fail_if_success (with_reducible show wpAny _ _ (pyIter _) _ _ _)); first | (k_unfold; (try dsimp only))  | walk1 | (dsimp only; walk1) | (leave1; walk_say "STEP leave1"; try dsimp only) | fail "no step"))
set_option maxRecDepth 100000 in
set_option maxHeartbeats 8000000 in
theorem hold_ : PySem.Challenge.rw_or0026_01.Holds := hd (by
  k_go0
  (all_goals try k_fold)
  walk_at "my steps"
  refine For_invVF (by assumption) (by rfl) (by rfl) ?_
  walk_at "my steps"
  refine kst_range (ledOf _ _) (fun c => [(Str.ofString "text", .str (mkS c.l) c.tt)]) (fun _ => True) [] (okSt 1 0) ⟨_, _, _, _, _, _, _, _, [], _⟩ (by rfl) (by assumption) (small_one (by omega) (by omega) (by omega) (by omega)) (rsize (by assumption)) (by assumption) (by assumption) trivial (by kst_all) ⟨by assumption, (by decide : (0 : Int) ≤ 0 + 1), (by decide : (0 : Int) + 1 ≤ 1 + ((0 : Nat) : Int)), (fun _ h => nomatch h), Nat.zero_le _⟩ ?_ ?_
  · rintro ⟨vs, ns, st, pl, ts, tp, kp, kc, l, tt⟩ pre k t u h tk own hk hkn hoff - ⟨ok1, ok2, ok3, ok4, ok5⟩ Fk Nk
    have hoff' := own_off hoff
    dsimp only at ok1 ok2 ok3 ok4 ok5
    dsimp only [kstB] at Fk
    dsimp only [ledOf, List.cons_append, List.nil_append] at Nk
    walk_at "my steps"
    refine draw_end (by assumption) (by assumption) (by kst_all) (by kst_same) (by assumption) (by omega) (by omega) (signs_app ok4 (Piece.signs (by assumption))) ?_
    rw [List.length_append]; omega
  · rintro ⟨vs, ns, st, pl, ts, tp, kp, kc, l, tt⟩ u h tk - ⟨ok1, ok2, ok3, ok4, ok5⟩ Fk Nk
    rw [rangeKs_length] at ok3 ok5
    dsimp only at ok1 ok2 ok3 ok4 ok5
    dsimp only [kstB] at Fk
    dsimp only [ledOf] at Nk
    walk_at "my steps"
    refine For_invVF (by assumption) (by rfl) (by rfl) ?_
    walk_at "my steps"
    refine kst_range (ledOf _ _) (fun c => [(Str.ofString "text", .str (mkS c.l) c.tt)]) (fun _ => True) [] (okSt 10 40) ⟨_, _, _, _, _, _, _, _, l, _⟩ (by rfl) (by assumption) (small_one (by omega) (by omega) (by omega) (by omega)) (rsize (by assumption)) (by assumption) (by assumption) trivial (by kst_all) ⟨by assumption, ?_, ?_, ok4, ?_⟩ ?_ ?_
    · show 0 ≤ pl + 1; omega
    · show pl + 1 ≤ 10 + ((0 : Nat) : Int); omega
    · show l.length ≤ 40 + 9 * 0; omega
    · clear ok1 ok2 ok3 ok4 ok5
      rintro ⟨vs, ns, st, pl, ts, tp, kp, kc, l, tt⟩ pre k t u h tk own hk hkn hoff - ⟨ok1, ok2, ok3, ok4, ok5⟩ Fk Nk
      have hoff' := own_off hoff
      dsimp only at ok1 ok2 ok3 ok4 ok5
      dsimp only [kstB] at Fk
      dsimp only [ledOf, List.cons_append, List.nil_append] at Nk
      walk_at "my steps"
      refine draw_end (by assumption) (by assumption) (by kst_all) (by kst_same) (by assumption) (by omega) (by omega) (signs_app ok4 (Piece.signs (by assumption))) ?_
      rw [List.length_append]; omega
    · clear ok1 ok2 ok3 ok4 ok5
      rintro ⟨vs, ns, st, pl, ts, tp, kp, kc, l, tt⟩ u h tk - ⟨ok1, ok2, ok3, ok4, ok5⟩ Fk Nk
      rw [rangeKs_length] at ok3 ok5
      dsimp only at ok1 ok2 ok3 ok4 ok5
      dsimp only [kstB] at Fk
      dsimp only [ledOf] at Nk
      have hl5 : l.length ≤ 100 := by omega
      obtain ⟨T, tk', f, n, c, hT, hT1, hT2, hTe, hwl, hf1, htk1, hf2, htk2, hbare, hreads, hc, hwf, hrf⟩ := law_plain l ok4 hl5
      walk_at "my steps2"
      all_goals first | exact (flag_absurd (by assumption) (by assumption)).elim | exact goodW_bool (by assumption) (by assumption) (no_raise _) (post_true _ (by assumption)))
end Mine
end
open PySem PySem.W PyProof.Rows
set_option maxRecDepth 100000 in
set_option maxHeartbeats 8000000 in
theorem PySem.Challenge.cw_or0026_01_holds : PySem.Challenge.rw_or0026_01.Holds := by
  exact Mine.hold_
