import PyProof.Rows.All
import Wide.All
import OpenK.AllK
import Wide.FinOn
import PySem.Challenge.RW_sm0054_01
open PySem PySem.W PyProof.Rows
set_option Elab.async false
set_option maxRecDepth 100000
set_option maxHeartbeats 8000000
namespace Mine.Hd
theorem said : PySem.Challenge.rw_sm0054_01.wellSaid = true := by decide +kernel
abbrev Left (p q : Program) (loose : List Str) (Xt : Shared → Bool) {α : Type} (Yf : Shared → α) (Ya : World → α) (N : Nat) : Prop := LeftO p q loose Xt Yf Ya N
/-- the library's lemma of this name, at the law's row; open_top in this namespace applies it: the top is checked at once, without the twins -/
theorem PySem.W.holds_open {q : Program} {loose : List Str} {Xt : Shared → Bool} {XP : (Str → Option Value) → Heap → Prop} {α : Type} {Yf : Shared → α} {Ya : World → α} {YP : World → Heap → Prop} {d : DefRec} {kwd : List (Str × Expr)} {N : Nat}
    (left : Left PySem.Challenge.rw_sm0054_01.row.prog q loose Xt Yf Ya N) (hY : ∀ w s, Yf s = Ya w → YP w s.heap) (hYk : ∀ w h h', YP w h → (∀ b o, h.get? b = some o → h'.get? b = some o) → YP w h')
    (hX : ∀ s, Xt s = true → XP (s.heap.nsMap mainGlobals) s.heap) (hXk : ∀ mg h h', XP mg h → (∀ b o, h.get? b = some o → h'.get? b = some o) → XP mg h')
    (hdef : defOf q PySem.Challenge.rw_sm0054_01.row.name = some (d, kwd)) (hp : PySem.Challenge.rw_sm0054_01.row.prog.theDef PySem.Challenge.rw_sm0054_01.row.name = some (d.params, d.body, d.scope)) (hk : kwWritten? d.params.kwonlyargs d.params.kw_defaults = some kwd) (hRf : ∀ s, Xt s = true → RecFacts PySem.Challenge.rw_sm0054_01.row.records s.heap) (hwr : (!PySem.Challenge.rw_sm0054_01.row.writes || PySem.Challenge.rw_sm0054_01.row.records.isEmpty) = true)
    (k1 : True) (ok : (chainsOk q && opensWell PySem.Challenge.rw_sm0054_01.row.prog && (frees PySem.Challenge.rw_sm0054_01.row.toRowW && PySem.Challenge.rw_sm0054_01.row.within.isEmpty)) = true) (hb : PySem.Challenge.rw_sm0054_01.row.prog.bare) (hw : PySem.Challenge.rw_sm0054_01.row.toRowW.promised)
    (call : WalkO q loose XP YP PySem.Challenge.rw_sm0054_01.row.toRowW d kwd fun f vs => PySem.call f vs) : PySem.Challenge.rw_sm0054_01.row.Holds :=
  _root_.PySem.W.holds_open left hY hYk hX hXk hdef hp hk hRf hwr (row_said said) ok hb hw call
open_top top for PySem.Challenge.rw_sm0054_01.row
end Mine.Hd
set_option Elab.async false
set_option maxRecDepth 100000
set_option maxHeartbeats 4000000
set_option linter.unusedVariables false
namespace Mine
open PySem PySem.W PySem.Spec PySem.Calls PyProof.Rows PyProof.V
theorem top_off : True := by w_top off; trivial
section

noncomputable abbrev prog : Program := PySem.Challenge.rw_sm0054_01.row.prog
noncomputable abbrev KK (w : World) : Frag := Mine.Hd.top.heap_1 w.params
noncomputable abbrev VW : Program := Mine.Hd.top.view_1

/-- room: every frame of the law's calls lies far below the limits -/
def Roomy (dp un : Nat) : Prop := dp ≤ 460 ∧ un ≤ 600
theorem room_lt {dp : Nat} (h : dp ≤ 480) : dp < recursionLimit := by unfold recursionLimit; omega
theorem units_lt {un : Nat} (h : un ≤ 800) : un < cLine := by rw [cLine_is]; omega

abbrev Led := List (Addr × Obj)

def off (a : Addr) (N : Led) : Led := N.filter fun p => !(p.1 == a)
theorem mem_off {a : Addr} {p : Addr × Obj} {N : Led} : p ∈ off a N ↔ p ∈ N ∧ p.1 ≠ a := by
  unfold off; rw [List.mem_filter]; simp
theorem mem_off_of {a : Addr} {p : Addr × Obj} {N : Led} (h : p ∈ N) (hne : p.1 ≠ a) : p ∈ off a N := mem_off.mpr ⟨h, hne⟩
theorem off_ne {a : Addr} {N : Led} : ∀ p ∈ off a N, p.1 ≠ a := fun _ hp => (mem_off.mp hp).2
theorem off_sub {a : Addr} {N : Led} : ∀ p ∈ off a N, p ∈ N := fun _ hp => (mem_off.mp hp).1

section
variable {h₀ h h' : Heap} {L a : Addr} {news news' : Led} {o o' : Obj}
theorem sub (N : News h₀ L h news) (hs : ∀ p ∈ news', p ∈ news) : News h₀ L h news' := fun p hp => N p (hs p hp)
theorem front (N : News h₀ L h news) (hm : (a, o) ∈ news) : News h₀ L h ((a, o) :: off a news) := sub N fun p hp => by
  rcases List.mem_cons.mp hp with rfl | hp
  · exact hm
  · exact off_sub p hp
theorem news_one {b : Addr} {o₁ o₂ : Obj} (N : News h₀ L h news) (h1 : (b, o₁) ∈ news) (h2 : (b, o₂) ∈ news) : o₁ = o₂ := by
  have e1 := (N _ h1).1
  have e2 := (N _ h2).1
  rw [e1] at e2
  exact Option.some.inj e2
end

/-- the end of a body: the callee's ledger becomes the caller's -/
def Back (h₀ : Heap) (L : Addr) (m : Str → Option Value) (g : Heap) (Q : Value → Shared → Prop) (v : Value) (s' : Shared) : Prop :=
  LeaveK h₀ L m g (fun r s' => match r with | .ok (.ret v) => Q v s' | _ => False) v s'
theorem back {h₀ g : Heap} {L L' : Addr} {m m' : Str → Option Value} {news' : Led} {Q : Value → Shared → Prop} {v : Value} {s' : Shared} (F' : Fr g L' s'.heap m') (N' : News g L' s'.heap news')
    (k : Fr h₀ L s'.heap m → News h₀ L s'.heap news' → Q v s') : Back h₀ L m g Q v s' := ⟨L', m', news', F', N', k⟩

abbrev rv : Flow → Value | .ret v => v | _ => .none

section
variable {w : World} {K : Frag} {loose : List Str} {mean : ExcName → Option Value} {mg mb : Str → Option Value} {p : Program} {dp un : Nat} {gd : Option (List Code)} {cn : Str} {cs : Scope} {a : Addr} {ccd : Value} {cl : List (Str × Addr)} {outer : List Env} {A₀ : Around} {base h₀ : Heap} {L : Addr} {m : Str → Option Value} {news : Led} {s : Shared} {Q E : Value → Shared → Prop}
  {name qual : Str} {params : Arguments} {body : List Stmt} {scope : Scope} {dV kV doc pm cdv ct oc : Value} {an od : Option Addr} {osl : Array (Option Value)} {f : Addr} {args : List Value} {binds : List (Str × Value)} {prog : Program}

theorem enter (B : Below A₀ base outer h₀) (F : Fr h₀ L s.heap m) (X : K.In h₀) (N : News h₀ L s.heap news) (T : Top p loose mean mg mb h₀) (hk : cs.kind = .function) (hd : dp ≤ 480)
    (ho : K.lookup f = some ⟨oc, od, .func (fnOf name qual params body scope dV kV doc pm an cdv ct), osl⟩) (hcd : codeIn K cdv qual = true)
    (hbind : bindArgs (fnOf name qual params body scope dV kV doc pm an cdv ct) ⟨args, []⟩ = pure binds) (hloc : ∀ y ∈ binds, scope.names.lookup y.1 = some .local)
    (hco : scope.isCoroutine = false) (hgen : scope.isGenerator = false) (hkf : scope.kind = .function) (hcell : ∀ x ∈ scope.names, x.2 ≠ .cell)
    (h : ∀ g L' h₁ tk, Fr g L' h₁ (fun y => binds.reverse.lookup y) → News g L' h₁ news → Below (ktrTop dp un gd cn cs L a ccd cl outer) base (envX cn cs L a ccd cl :: outer) g → K.In g → Top p loose mean mg mb g →
      wpAny (model prog w) (ktrTop (dp + 1) (un + 3) gd qual scope L' f cdv [] (envX cn cs L a ccd cl :: outer)) (execs body (envX qual scope L' f cdv []))
        (fun fl s' => Back h₀ L m g Q (rv fl) s') (fun _ _ => False) { s with heap := h₁, toks := tk }) :
    wpAny (model prog w) (ktrTop dp un gd cn cs L a ccd cl outer) (call (.ref f) args) Q E s := by
  refine wpAny_call ?_
  refine code_def B F X N T rfl rfl hk ho hcd (room_lt hd) (BindsTo.of_eq hbind) hloc (fun g L' h₁ FG F' N' B' X' T' => ?_) hco hgen hkf hcell
  refine wpAny_mono (h g L' h₁ _ F' N' B' X' T') (fun fl s' hb => ?_) fun _ _ x => x.elim
  obtain ⟨L₂, m₂, news₂, F₂, N₂, k⟩ := hb
  refine ⟨L₂, m₂, news₂, F₂, N₂, fun a b => ?_⟩
  have := k a b
  cases fl <;> exact this
end
/-- a goal at which the walk is to stand still -/
def Stop (p : Prop) : Prop := p
theorem stop {p : Prop} (h : Stop p) : p := h
theorem go {p : Prop} (h : p) : Stop p := h
/-- a post behind one variable: keeps what the walk writes out at each step small -/
def CutR {α : Type} (R : α → Shared → Prop) (v : α) (s : Shared) : Prop := R v s
/-- the goal behind a variable while facts are taken apart -/
theorem hide {G : Prop} (h : ∀ P : Prop, (G → P) → P) : G := h G id
structure Cut {α : Type} (Q R : α → Shared → Prop) : Prop where
  go : ∀ v s, Q v s → CutR R v s
theorem cutQ {α : Type} {M : Model} {A : Around} {t : Sem α} {Q : α → Shared → Prop} {E : Value → Shared → Prop} {s : Shared} (h : ∀ R : α → Shared → Prop, Cut Q R → wpAny M A t (CutR R) E s) : wpAny M A t Q E s :=
  h Q ⟨fun _ _ q => q⟩

structure UT where
  (k1 k2 k3 k4 k5 k6 a b c d : Tok)
def upEs (P : Params) (τ : UT) (th : Value) (ix : Int) (v : Value) : List DictEntry :=
  [⟨PyData.keyHash P (Str.ofString "number"), .str (Str.ofString "number") τ.k1, .int 0 τ.a⟩,
   ⟨PyData.keyHash P (Str.ofString "mark"), .str (Str.ofString "mark") τ.k2, .int 0 τ.b⟩,
   ⟨PyData.keyHash P (Str.ofString "size"), .str (Str.ofString "size") τ.k3, .int 4 τ.c⟩,
   ⟨PyData.keyHash P (Str.ofString "thread"), .str (Str.ofString "thread") τ.k4, th⟩,
   ⟨PyData.keyHash P (Str.ofString "index"), .str (Str.ofString "index") τ.k5, .int ix τ.d⟩,
   ⟨PyData.keyHash P (Str.ofString "value"), .str (Str.ofString "value") τ.k6, v⟩]
structure GT where
  (k1 k2 k3 k4 : Tok)
def grEs (P : Params) (τ : GT) (st ou : Addr) : List DictEntry :=
  [⟨PyData.keyHash P (Str.ofString "stack"), .str (Str.ofString "stack") τ.k1, .ref st⟩,
   ⟨PyData.keyHash P (Str.ofString "open_upvals"), .str (Str.ofString "open_upvals") τ.k2, .ref ou⟩,
   ⟨PyData.keyHash P (Str.ofString "answers"), .str (Str.ofString "answers") τ.k3, .none⟩,
   ⟨PyData.keyHash P (Str.ofString "is_over"), .str (Str.ofString "is_over") τ.k4, .bool false⟩]

/-- the ledger has a variable at u (its table at d) -/
def UpAt (P : Params) (N : Led) (u d : Addr) (th : Value) (ix : Int) (v : Value) : Prop :=
  (u, instObj 81 d) ∈ N ∧ ∃ τ n, (d, dictOf (upEs P τ th ix v) n) ∈ N
def GrAt (P : Params) (N : Led) (g d st ou : Addr) : Prop :=
  (g, instObj 100 d) ∈ N ∧ ∃ τ n, (d, dictOf (grEs P τ st ou) n) ∈ N
/-- the ledger has a list -/
def LiAt (N : Led) (l : Addr) (vs : List Value) : Prop := ∃ n, (l, listOf vs.toArray n) ∈ N

theorem UpAt.mono {P : Params} {N N' : Led} {u d : Addr} {th : Value} {ix : Int} {v : Value} (h : UpAt P N u d th ix v) (hs : ∀ o, (u, o) ∈ N → (u, o) ∈ N') (hd : ∀ o, (d, o) ∈ N → (d, o) ∈ N') : UpAt P N' u d th ix v :=
  ⟨hs _ h.1, let ⟨τ, n, x⟩ := h.2; ⟨τ, n, hd _ x⟩⟩
theorem GrAt.mono {P : Params} {N N' : Led} {g d st ou : Addr} (h : GrAt P N g d st ou) (hs : ∀ o, (g, o) ∈ N → (g, o) ∈ N') (hd : ∀ o, (d, o) ∈ N → (d, o) ∈ N') : GrAt P N' g d st ou :=
  ⟨hs _ h.1, let ⟨τ, n, x⟩ := h.2; ⟨τ, n, hd _ x⟩⟩
structure Up where
  (u d : Addr)
  ix : Int
/-- the open variables of a ground -/
def Ops (P : Params) (N : Led) (g : Addr) (ups : List Up) : Prop := ∀ x ∈ ups, UpAt P N x.u x.d (.ref g) x.ix .none
abbrev refs (ups : List Up) : List Value := ups.map fun x => .ref x.u
theorem LiAt.mono {N N' : Led} {l : Addr} {vs : List Value} (h : LiAt N l vs) (hs : ∀ o, (l, o) ∈ N → (l, o) ∈ N') : LiAt N' l vs := let ⟨n, x⟩ := h; ⟨n, hs _ x⟩

/-- how many open variables stand above a place -/
def spot (ups : List Up) (ix : Int) : Nat := (ups.takeWhile (fun x => decide (ix < x.ix))).length
theorem spot_le {ups : List Up} {ix : Int} : spot ups ix ≤ ups.length := (List.takeWhile_sublist _).length_le
def openAt (ups : List Up) (ix : Int) : Option Up := (ups[spot ups ix]?).bind fun x => if x.ix = ix then some x else none
def upVal : Option Up → Value
  | some x => .ref x.u
  | none => .none
theorem at_refs {ups : List Up} {i : Nat} {x : Up} (h : ups[i]? = some x) : (refs ups)[((i : Int)).toNat]? = some (.ref x.u) := by
  simp [refs, h]

section
variable {prog : Program} {w : World} {A : Around} {E : Value → Shared → Prop} {s : Shared} {h₀ : Heap} {L l : Addr} {m : Str → Option Value} {news : Led} {n : Nat} {vs : List Value}
theorem isList (N : News h₀ L s.heap news) (hm : (l, listOf vs.toArray n) ∈ news) : s.heap.IsList l vs.toArray := ⟨_, (N _ hm).1, rfl, n, rfl⟩
theorem len_L {k : Nat} {Q : Value → Shared → Prop} (N : News h₀ L s.heap news) (hm : (l, listOf vs.toArray n) ∈ news) (hk : vs.length = k) (hz : k ≤ 1000000)
    (h : ∀ tk tk', Q (.int (k : Int) tk) { s with toks := tk' }) : wpAny (model prog w) A (call (.builtin "len") [.ref l]) Q E s := by
  subst hk
  refine call_len_list (isList N hm) (by rw [List.size_toArray]; omega) ?_
  rw [List.size_toArray]
  exact h _ _
theorem item_L {value slice : PySem.Expr} {k : Int} {u : Tok} {v : Value} {Q : Value → Shared → Prop} (N : News h₀ L s.heap news) (hm : (l, listOf vs.toArray n) ∈ news) (hx : vs[k.toNat]? = some v) (hk : 0 ≤ k ∧ k ≤ 1000000) (h : Q v s)
    (hs : subscripted slice false (.ref l) (.int k u) = operate [.ref l, .int k u] (getItem (.ref l) (.int k u))) :
    wpAny (model prog w) A (subscriptTail value slice (.ref l) (.int k u)) Q E s :=
  tail_any (isList N hm).typeIs slot_list_getitem.lookup (wpAny_getItem_list (isList N hm) hk.1 (by omega) (by simpa using hx) h) hs
end

theorem takeWhile_len {α : Type} {p : α → Bool} {l : List α} {i : Nat} (h1 : ∀ x ∈ l.take i, p x = true) (hi : i ≤ l.length) (h2 : ∀ x, l[i]? = some x → p x = false) : (l.takeWhile p).length = i := by
  induction l generalizing i with
  | nil => simp at hi; subst hi; rfl
  | cons y r ih =>
    cases i with
    | zero =>
      have := h2 y (by simp)
      simp [List.takeWhile_cons, this]
    | succ i =>
      have hy := h1 y (by simp)
      rw [List.takeWhile_cons, if_pos hy, List.length_cons, ih (i := i) (fun x hx => h1 x (by simp [hx])) (by simpa using hi) (fun x hx => h2 x (by simpa using hx))]
theorem map_same {x : Str} {v v' : Option Value} {m : Str → Option Value} : (fun y => if y = x then v else if y = x then v' else m y) = fun y => if y = x then v else m y := by
  funext y; by_cases h : y = x <;> simp [h]
theorem mem_take_succ {α : Type} {l : List α} {i : Nat} {x : α} {P : α → Prop} (hx : l[i]? = some x) (h : ∀ y ∈ l.take i, P y) (hP : P x) : ∀ y ∈ l.take (i + 1), P y := by
  intro y hy
  rw [List.take_add_one, hx] at hy
  rcases List.mem_append.mp hy with hy | hy
  · exact h y hy
  · simp at hy; subst hy; exact hP

section
variable {prog : Program} {w : World} {A : Around} {E : Value → Shared → Prop} {s : Shared} {h₀ : Heap} {L D : Addr} {m : Str → Option Value} {news news' : Led} {n : Nat} {vs : List Value} {y : Value} {Q : Value → Shared → Prop}
theorem insert_L {k : Nat} {u : Tok} (F : Fr h₀ L s.heap m) (N : News h₀ L s.heap news) (hk : k ≤ vs.length) (hz : vs.length ≤ 1000000) (U : Upd D (listOf vs.toArray n) (listOf (vs.take k ++ y :: vs.drop k).toArray (n + 1)) news news')
    (h : ∀ h', Fr h₀ L h' m → News h₀ L h' news' → Q .none { s with heap := h' }) :
    wpAny (model prog w) A (call (.builtin "list.insert") [.ref D, .int (k : Int) u, y]) Q E s := by
  refine kl_insert F N (l := vs.take k ++ y :: vs.drop k) (by unfold Builtin.List.listFitsIndex; rw [Bool.and_eq_true]; exact ⟨decide_eq_true (by omega), decide_eq_true (by omega)⟩) ?_ U (by rw [sizeLine_eq]; simp; omega) h
  have e : (if (k : Int) < 0 then ((k : Int) + (vs.length : Int)).toNat else min (k : Int).toNat vs.length) = k := by
    rw [if_neg (by omega)]; simp; omega
  unfold kl_ins
  simp only [e]
theorem pop0_L {u : Tok} (F : Fr h₀ L s.heap m) (N : News h₀ L s.heap news) (hz : vs.length ≤ 1000000) (U : Upd D (listOf (y :: vs).toArray n) (listOf vs.toArray (n + 1)) news news')
    (h : ∀ h', Fr h₀ L h' m → News h₀ L h' news' → Q y { s with heap := h' }) :
    wpAny (model prog w) A (call (.builtin "list.pop") [.ref D, .int 0 u]) Q E s := by
  exact kl_popAt (its := (y :: vs).toArray) (n := n) F N (k := 0) (p := []) (y := y) (q := vs) (by decide) (by unfold seqIndex?; simp) (by rfl) U (by rw [sizeLine_eq]; simp; omega) h
theorem append_L (F : Fr h₀ L s.heap m) (N : News h₀ L s.heap news) (hz : vs.length ≤ 1000000) (U : Upd D (listOf vs.toArray n) (listOf (vs ++ [y]).toArray (n + 1)) news news')
    (h : ∀ h', Fr h₀ L h' m → News h₀ L h' news' → Q .none { s with heap := h' }) :
    wpAny (model prog w) A (call (.builtin "list.append") [.ref D, y]) Q E s :=
  append_K (its := vs.toArray) (n := n) F N (by simpa using U) h (by rw [sizeLine_eq]; simp; omega)
end

theorem allLt_ne {d : Addr} : ∀ {l : Led}, AllLt d l → ∀ p ∈ l, p.1 ≠ d
  | [], _, _, h => nomatch h
  | _ :: _, x, p, h => by
    rcases List.mem_cons.mp h with rfl | h
    · exact Nat.ne_of_lt x.1
    · exact allLt_ne x.2 p h
theorem allLt_lt {d : Addr} : ∀ {l : Led}, AllLt d l → ∀ p ∈ l, p.1 < d
  | [], _, _, h => nomatch h
  | _ :: _, x, p, h => by
    rcases List.mem_cons.mp h with rfl | h
    · exact x.1
    · exact allLt_lt x.2 p h

theorem mem_mid2 {p q r : Addr × Obj} {x : Addr × Obj} {rest : Led} (h : x ∈ p :: rest) : x ∈ p :: q :: r :: rest := by
  rcases List.mem_cons.mp h with rfl | h
  · exact .head _
  · exact .tail _ (.tail _ (.tail _ h))
theorem news3 {P : Params} {h₀ h : Heap} {L u d ou : Addr} {k1 k2 k3 k4 k5 k6 a b c t : Tok} {th v : Value} {ix : Int} {k : Nat} {o : Obj} {rest : Led}
    (N : News h₀ L h ((u, instObj 81 d) :: (d, dictOf [⟨PyData.keyHash P (Str.ofString "number"), .str (Str.ofString "number") k1, .int 0 a⟩,
   ⟨PyData.keyHash P (Str.ofString "mark"), .str (Str.ofString "mark") k2, .int 0 b⟩,
   ⟨PyData.keyHash P (Str.ofString "size"), .str (Str.ofString "size") k3, .int 4 c⟩,
   ⟨PyData.keyHash P (Str.ofString "thread"), .str (Str.ofString "thread") k4, th⟩,
   ⟨PyData.keyHash P (Str.ofString "index"), .str (Str.ofString "index") k5, .int ix t⟩,
   ⟨PyData.keyHash P (Str.ofString "value"), .str (Str.ofString "value") k6, v⟩] k) :: (ou, o) :: rest)) :
    News h₀ L h ((ou, o) :: (u, instObj 81 d) :: (d, dictOf (upEs P ⟨k1, k2, k3, k4, k5, k6, a, b, c, t⟩ th ix v) k) :: rest) := sub N fun p hp => by
  rcases List.mem_cons.mp hp with rfl | hp
  · exact .tail _ (.tail _ (.head _))
  · rcases List.mem_cons.mp hp with rfl | hp
    · exact .head _
    · rcases List.mem_cons.mp hp with rfl | hp
      · exact .tail _ (.head _)
      · exact .tail _ (.tail _ (.tail _ hp))

theorem map_none' {x : Str} {m : Str → Option Value} (h : m x = none) : m = fun y => if y = x then none else m y := by
  funext y; by_cases e : y = x
  · subst e; simp [h]
  · simp [e]
/-- what an object is by its make: apart makes stand at apart places -/
def mk (o : Obj) : Nat × Nat := match o.cls, o.data with
  | .type "list", _ => (1, 0)
  | .type "dict", .dict es _ => (2, es.size)
  | .ref C, _ => (3, C)
  | _, _ => (0, 0)
theorem ne_mk {h₀ h : Heap} {L a b : Addr} {news : Led} {o o' : Obj} (N : News h₀ L h news) (h1 : (a, o) ∈ news) (h2 : (b, o') ∈ news) (hm : mk o ≠ mk o') : a ≠ b := by
  rintro rfl
  exact hm (congrArg mk (news_one N h1 h2))
theorem mk_up {P : Params} {τ : UT} {th v : Value} {ix : Int} {n : Nat} : mk (dictOf (upEs P τ th ix v) n) = (2, 6) := rfl
theorem mk_gr {P : Params} {τ : GT} {st ou : Addr} {n : Nat} : mk (dictOf (grEs P τ st ou) n) = (2, 4) := rfl
theorem mk_list {vs : Array Value} {n : Nat} : mk (listOf vs n) = (1, 0) := rfl
theorem mk_inst {C d : Addr} : mk (instObj C d) = (3, C) := rfl

section
variable {P : Params} {h₀ h : Heap} {L : Addr} {N : Led} {u d u' d' g dg st ou l : Addr} {th th' v v' : Value} {ix ix' : Int} {vs : List Value}
theorem UpAt.u_ne (x : UpAt P N u d th ix v) (y : UpAt P N u' d' th' ix' v') (n : News h₀ L h N) : u ≠ d' := let ⟨_, _, q⟩ := y.2; ne_mk n x.1 q (by rw [mk_inst, mk_up]; decide)
theorem UpAt.g_ne (x : GrAt P N g dg st ou) (y : UpAt P N u' d' th' ix' v') (n : News h₀ L h N) : g ≠ d' := let ⟨_, _, q⟩ := y.2; ne_mk n x.1 q (by rw [mk_inst, mk_up]; decide)
theorem UpAt.dg_ne (x : GrAt P N g dg st ou) (y : UpAt P N u' d' th' ix' v') (n : News h₀ L h N) : dg ≠ d' := let ⟨_, _, q⟩ := y.2; let ⟨_, _, p⟩ := x.2; ne_mk n p q (by rw [mk_gr, mk_up]; decide)
theorem UpAt.l_ne (x : LiAt N l vs) (y : UpAt P N u' d' th' ix' v') (n : News h₀ L h N) : l ≠ d' := let ⟨_, _, q⟩ := y.2; let ⟨_, p⟩ := x; ne_mk n p q (by rw [mk_list, mk_up]; decide)
theorem UpAt.l_ne_u (x : LiAt N l vs) (y : UpAt P N u' d' th' ix' v') (n : News h₀ L h N) : l ≠ u' := let ⟨_, p⟩ := x; ne_mk n p y.1 (by rw [mk_list, mk_inst]; decide)
theorem GrAt.l_ne_g (x : LiAt N l vs) (y : GrAt P N g dg st ou) (n : News h₀ L h N) : l ≠ g := let ⟨_, p⟩ := x; ne_mk n p y.1 (by rw [mk_list, mk_inst]; decide)
theorem GrAt.l_ne_dg (x : LiAt N l vs) (y : GrAt P N g dg st ou) (n : News h₀ L h N) : l ≠ dg := let ⟨_, p⟩ := x; let ⟨_, _, q⟩ := y.2; ne_mk n p q (by rw [mk_list, mk_gr]; decide)
end

/-- a ground whole -/
structure Grd (P : Params) (N : Led) (g dg st ou : Addr) (vals : List Value) (ups : List Up) : Prop where
  gr : GrAt P N g dg st ou
  stk : LiAt N st vals
  opn : LiAt N ou (refs ups)
  ops : Ops P N g ups
  nd : (ups.map (·.d)).Nodup
  ne : st ≠ ou
  len : ups.length ≤ 100
  vlen : vals.length ≤ 1000
  rng : ∀ x ∈ ups, 0 ≤ x.ix ∧ x.ix < vals.length

section
variable {P : Params} {τ : UT} {th th' v v' key : Value} {ix ix' : Int} {n : Nat} {t : Tok} {hs : Int}
theorem put_value : (putL (Str.ofString "value") hs key v' (upEs P τ th ix v), putN (Str.ofString "value") (upEs P τ th ix v) n) = (upEs P τ th ix v', n) := rfl
theorem put_thread : (putL (Str.ofString "thread") hs key th' (upEs P τ th ix v), putN (Str.ofString "thread") (upEs P τ th ix v) n) = (upEs P τ th' ix v, n) := rfl
theorem put_index : (putL (Str.ofString "index") hs key (.int ix' t) (upEs P τ th ix v), putN (Str.ofString "index") (upEs P τ th ix v) n) = (upEs P { τ with d := t } th ix' v, n) := rfl
end

/-- a loop's turn that goes on -/
inductive TurnN (h₀ : Heap) (L : Addr) (s₁ : Shared) (I : Addr) (oI : Obj) (src : Led) (J : (Str → Option Value) → Led → Prop) (s₂ : Shared) : Prop
  | mk (h' : Heap) (tk : Tok) (m' : Str → Option Value) (news' : Led) (e : s₂ = { s₁ with heap := h', toks := tk }) (F : Fr h₀ L h' m') (N : News h₀ L h' ((I, oI) :: news')) (hs : ∀ p ∈ src, p ∈ news') (ho : ∀ p ∈ news', p.1 ≠ I) (hj : J m' news') : TurnN h₀ L s₁ I oI src J s₂
/-- the end of a loop's turn -/
def TurnE (h₀ : Heap) (L : Addr) (s₁ : Shared) (I : Addr) (oI : Obj) (src : Led) (J : (Str → Option Value) → Led → Prop) (Q : Flow → Shared → Prop) (f : Flow) (s₂ : Shared) : Prop :=
  match f with
  | .ret v => Q (.ret v) s₂
  | .brk => Q .next s₂
  | _ => TurnN h₀ L s₁ I oI src J s₂
theorem turnE {h₀ h' : Heap} {L I : Addr} {s₁ : Shared} {oI : Obj} {src news news' : Led} {J : (Str → Option Value) → Led → Prop} {Q : Flow → Shared → Prop} {tk : Nat} {m' : Str → Option Value}
    (F : Fr h₀ L h' m') (N : News h₀ L h' news) (hn : ∀ p ∈ (I, oI) :: news', p ∈ news) (hs : ∀ p ∈ src, p ∈ news') (ho : ∀ p ∈ news', p.1 ≠ I) (hj : J m' news') : TurnE h₀ L s₁ I oI src J Q .next { s₁ with heap := h', toks := tk } :=
  ⟨h', tk, m', news', rfl, F, sub N hn, hs, ho, hj⟩
section
variable {prog : Program} {w : World} {A : Around} {E : Value → Shared → Prop} {s : Shared} {env : Env} {h₀ : Heap} {x : Str} {body : List Stmt} {Q : Flow → Shared → Prop}
theorem for_W {I : Addr} {fp : List Addr} {k : Nat} {P : Nat → Value → Prop} {St : Nat → Heap → Prop} {m₀ : Str → Option Value} {news src : Led} (J : Nat → (Str → Option Value) → Led → Prop)
    (W : Walks prog w A I fp [I] k P St) (hfp : ∀ b ∈ fp, b = I ∨ ∃ o, (b, o) ∈ src) (hst : St 0 s.heap) (hSt : ∀ i h, St i h → ∃ o, h.get? I = some o) (hIL : I ≠ env.locals) (hI₀ : h₀.get? I = none) (hnI : ∀ p ∈ news, p.1 ≠ I)
    (F : Fr h₀ env.locals s.heap m₀) (N : News h₀ env.locals s.heap news) (hsrc : ∀ p ∈ src, p ∈ news) (hj : J 0 m₀ news)
    (turn : ∀ i v m₁ news₁ h tk oI, i < k → P i v → J i m₁ news₁ → (∀ p ∈ src, p ∈ news₁) → (∀ p ∈ news₁, p.1 ≠ I) → Fr h₀ env.locals h (fun y => if y = x then some v else m₁ y) → News h₀ env.locals h ((I, oI) :: news₁) →
      wpAny (model prog w) A (execs body env) (TurnE h₀ env.locals { s with heap := h, toks := tk } I oI src (J (i + 1)) Q) E { s with heap := h, toks := tk })
    (done : ∀ m₁ news₁ h tk, J k m₁ news₁ → (∀ p ∈ src, p ∈ news₁) → Fr h₀ env.locals h m₁ → News h₀ env.locals h news₁ → Q .next { s with heap := h, toks := tk }) :
    LoopAtV prog w A h₀ env x body Q E (.ref I) s := by
  have hLf : env.locals ∉ fp := fun hm => by
    rcases hfp _ hm with e | ⟨o, ho⟩
    · exact hIL e.symm
    · exact (N _ (hsrc _ ho)).2.1 rfl
  refine ⟨I, fp, [I], k, P, St, m₀, news, fun i m n => (∀ p ∈ src, p ∈ n) ∧ J i m n, rfl, W, hLf, ?_, ?_, hst, F, N, ⟨hsrc, hj⟩, ?_, ?_⟩
  · intro b hb; rw [List.mem_singleton.mp hb]; exact hI₀
  · intro p hp hb; exact hnI p hp (List.mem_singleton.mp hb)
  · rintro i v m₁ news₁ s₁ own ⟨hh, tk, rfl⟩ hik hP ⟨hs₁, hJ⟩ hoff hown hget hall st₁ F₁ N₁
    obtain ⟨oI, hoI⟩ := hSt _ _ st₁
    have N₂ : News h₀ env.locals hh ((I, oI) :: news₁) := fun p hp => by
      rcases List.mem_cons.mp hp with rfl | hp
      · exact ⟨hoI, hIL, hI₀⟩
      · exact N₁ p (List.mem_append_right _ hp)
    refine wpAny_mono (turn i v m₁ news₁ hh tk oI hik hP hJ hs₁ (fun p hp e => hoff p hp (List.mem_singleton.mpr e)) F₁ N₂) (fun f s₂ h₂ => ?_) fun _ _ e => e
    have fin : TurnN h₀ env.locals { s with heap := hh, toks := tk } I oI src (J (i + 1)) s₂ →
        LoopStepU h₀ env.locals [I] own (fun m n => (∀ p ∈ src, p ∈ n) ∧ J (i + 1) m n) { s with heap := hh, toks := tk } .next s₂ := by
      rintro ⟨h', tk', m', news', rfl, F', N', hs', ho', hJ'⟩
      refine ⟨rfl, h', tk', m', news', rfl, F', fun p hp => ?_, fun p hp e => ho' p hp (List.mem_singleton.mp e), hs', hJ'⟩
      rcases List.mem_append.mp hp with hp | hp
      · have e1 := hget p hp
        have e2 := hown p hp
        rcases hfp _ e2 with e | ⟨o, ho⟩
        · have : p = (I, oI) := by
            rw [e, hoI] at e1
            exact Prod.ext e (Option.some.inj e1).symm
          rw [this]; exact N' _ (.head _)
        · have e3 := (N₁ _ (List.mem_append_right _ (hs₁ _ ho))).1
          have : p = (p.1, o) := by
            rw [e1] at e3
            exact Prod.ext rfl (Option.some.inj e3)
          rw [this]; exact N' _ (.tail _ (hs' _ ho))
      · exact N' p (.tail _ hp)
    cases f with
    | ret v => exact .ret h₂
    | brk => exact .brk h₂
    | next => exact .next (fin h₂)
    | cont => exact .cont (fin h₂)
  · rintro h' tk m' news' F' N' _ ⟨hs', hJ⟩
    exact done m' news' h' tk hJ hs' F' N'

/-- for x in l, the list of the ledger: what a turn does leaves that list as it was -/
theorem for_L {l : Addr} {n : Nat} {vs : List Value} {m₀ : Str → Option Value} {news : Led} (J : Nat → (Str → Option Value) → Led → Prop) (hh : A.handled = none)
    (F : Fr h₀ env.locals s.heap m₀) (N : News h₀ env.locals s.heap news) (hm : (l, listOf vs.toArray n) ∈ news) (hj : J 0 m₀ news)
    (turn : ∀ i v m₁ news₁ I h tk oI, vs[i]? = some v → J i m₁ news₁ → (l, listOf vs.toArray n) ∈ news₁ → (∀ p ∈ news₁, p.1 ≠ I) → Fr h₀ env.locals h (fun y => if y = x then some v else m₁ y) → News h₀ env.locals h ((I, oI) :: news₁) →
      wpAny (model prog w) A (execs body env) (TurnE h₀ env.locals { s with heap := h, toks := tk } I oI [(l, listOf vs.toArray n)] (J (i + 1)) Q) E { s with heap := h, toks := tk })
    (done : ∀ m₁ news₁ h tk, J vs.length m₁ news₁ → (l, listOf vs.toArray n) ∈ news₁ → Fr h₀ env.locals h m₁ → News h₀ env.locals h news₁ → Q .next { s with heap := h, toks := tk }) :
    wpAny (model prog w) A (pyIter (.ref l)) (fun it s₂ => LoopAtV prog w A h₀ env x body Q E it s₂) E s := by
  have hl := isList N hm
  have hlt : l < s.heap.objs.size := Heap.lt_size (N _ hm).1
  refine wpAny_pyIter_list hl ?_
  have up : ∀ b o, s.heap.get? b = some o → (s.heap.push { cls := .type "list_iterator", data := .fields #[.ref l, .int 0 0] }).get? b = some o := fun b o e => Heap.get?_push_of_some _ e
  refine for_W (src := [(l, listOf vs.toArray n)]) (news := news) J (Walks.list hh s.heap.objs.size l (Nat.ne_of_lt hlt) vs.toArray) ?_ ⟨⟨_, Heap.get?_push_size _ rfl, rfl, rfl⟩, hl.push _⟩ (fun i h st => by obtain ⟨o, e, _⟩ := st.1; exact ⟨o, e⟩) (Nat.ne_of_gt F.ns.lt) (next_is_new F) (fun p hp => Nat.ne_of_lt (Heap.lt_size (N p hp).1))
    (F.keeps up) (N.grown up) (fun p hp => by rw [List.mem_singleton.mp hp]; exact hm) hj ?_ ?_
  · intro b hb
    rcases List.mem_cons.mp hb with rfl | hb
    · exact .inl rfl
    · rw [List.mem_singleton.mp hb]; exact .inr ⟨_, List.mem_singleton.mpr rfl⟩
  · intro i v m₁ news₁ h tk oI hi hP hJ hs ho F₁ N₁
    exact turn i v m₁ news₁ _ h tk oI (by simpa using hP) hJ (hs _ (List.mem_singleton.mpr rfl)) ho F₁ N₁
  · intro m₁ news₁ h tk hJ hs F₁ N₁
    exact done m₁ news₁ h tk (by simpa using hJ) (hs _ (List.mem_singleton.mpr rfl)) F₁ N₁
end

section
variable {prog : Program} {w : World} {A : Around} {E : Value → Shared → Prop} {s : Shared} {h₀ : Heap} {L D : Addr} {m : Str → Option Value} {news news' : Led} {n : Nat} {vs : List Value}
theorem set_L {k : Int} {t : Tok} {v : Value} {Q : Unit → Shared → Prop} (F : Fr h₀ L s.heap m) (N : News h₀ L s.heap news) (U : Upd D (listOf vs.toArray n) (listOf (vs.set k.toNat v).toArray n) news news') (h0 : 0 ≤ k ∧ k < vs.length) (hz : vs.length ≤ 1000000)
    (h : ∀ h', Fr h₀ L h' m → News h₀ L h' news' → Q () { s with heap := h' }) :
    wpAny (model prog w) A (setItem (.ref D) (.int k t) v) Q E s := by
  obtain ⟨pre, post, rfl, rfl, a, b⟩ := U.split
  have z := N (D, listOf vs.toArray n) (List.mem_append.mpr (.inr (.head _)))
  refine ki_setAt z.1 h0.1 (by omega) (by rw [List.size_toArray]; omega) (h _ (F.change (Heap.SameBut.update ..) z.2.1 z.2.2) (ki_turn _ N a b ?_ ?_))
  · show vs.toArray.setIfInBounds k.toNat v = (vs.set k.toNat v).toArray
    apply Array.toList_inj.mp
    simp
  · simp
end

theorem map_swap {a b : Str} {va va' vb vb' : Option Value} {m : Str → Option Value} (hab : a ≠ b) :
    (fun y => if y = b then vb' else if y = a then va' else if y = a then va else if y = b then vb else m y) = fun y => if y = a then va' else if y = b then vb' else m y := by
  funext y
  by_cases h1 : y = a
  · subst h1; simp [hab]
  · by_cases h2 : y = b
    · subst h2; simp [h1]
    · simp [h1, h2]
theorem map_start {a b : Str} {vb : Option Value} {m : Str → Option Value} (ha : m a = none) (hab : a ≠ b) :
    (fun y => if y = b then vb else m y) = fun y => if y = a then none else if y = b then vb else m y := by
  funext y
  by_cases h1 : y = a
  · subst h1; simp [hab, ha]
  · simp [h1]

theorem drop_at {α : Type} {l : List α} {i : Nat} {x : α} (h : l[i]? = some x) : l.drop i = x :: l.drop (i + 1) := by
  obtain ⟨hi, e⟩ := List.getElem?_eq_some_iff.mp h
  rw [List.drop_eq_getElem_cons hi, e]
theorem pairwise_after {α : Type} {R : α → α → Prop} {l : List α} {i : Nat} {x : α} (hs : l.Pairwise R) (h : l[i]? = some x) : ∀ y ∈ l.drop (i + 1), R x y := by
  have := hs.drop (i := i)
  rw [drop_at h, List.pairwise_cons] at this
  exact this.1

/-- what closing the variables of 'done' makes of a ledger -/
structure Clo (P : Params) (vals : List Value) (rest : Led) (done : List Up) (rest₁ : Led) : Prop where
  dom : ∀ p ∈ rest₁, ∃ o, (p.1, o) ∈ rest
  keep : ∀ p ∈ rest, p.1 ∉ done.map (·.d) → p ∈ rest₁
  shut : ∀ x ∈ done, ∃ v, vals[x.ix.toNat]? = some v ∧ UpAt P rest₁ x.u x.d .none (-1) v
theorem Clo.nil {P : Params} {vals : List Value} {rest : Led} : Clo P vals rest [] rest := ⟨fun p hp => ⟨p.2, hp⟩, fun _ hp _ => hp, fun _ hx => nomatch hx⟩
theorem Clo.snoc {P : Params} {vals : List Value} {rest rest₁ : Led} {done : List Up} {x : Up} {τ : UT} {v : Value} {k : Nat} (c : Clo P vals rest done rest₁) (hu : (x.u, instObj 81 x.d) ∈ rest₁) (hud : x.u ≠ x.d) (hd : x.d ∉ done.map (·.d)) (hdu : ∀ y ∈ done, y.u ≠ x.d)
    (hv : vals[x.ix.toNat]? = some v) (hx : ∃ o, (x.d, o) ∈ rest) : Clo P vals rest (done ++ [x]) ((x.d, dictOf (upEs P τ .none (-1) v) k) :: off x.d rest₁) where
  dom := fun p hp => by
    rcases List.mem_cons.mp hp with rfl | hp
    · exact hx
    · exact c.dom p (off_sub p hp)
  keep := fun p hp hn => by
    rw [List.map_append, List.mem_append, not_or] at hn
    exact .tail _ (mem_off_of (c.keep p hp hn.1) (by simpa using hn.2))
  shut := fun y hy => by
    rcases List.mem_append.mp hy with hy | hy
    · obtain ⟨w, hw, q⟩ := c.shut y hy
      exact ⟨w, hw, q.mono (fun o h => .tail _ (mem_off_of h (hdu y hy))) fun o h => .tail _ (mem_off_of h fun e => hd (by rw [← e]; exact List.mem_map_of_mem hy))⟩
    · rw [List.mem_singleton.mp hy]
      exact ⟨v, hv, .tail _ (mem_off_of hu hud), _, _, .head _⟩
theorem news_swap {h₀ h : Heap} {L : Addr} {p q : Addr × Obj} {rest : Led} (N : News h₀ L h (p :: q :: rest)) : News h₀ L h (q :: p :: rest) := sub N fun x hx => by
  rcases List.mem_cons.mp hx with rfl | hx
  · exact .tail _ (.head _)
  · rcases List.mem_cons.mp hx with rfl | hx
    · exact .head _
    · exact .tail _ (.tail _ hx)
theorem news_rot {h₀ h : Heap} {L : Addr} {p q r : Addr × Obj} {rest : Led} (N : News h₀ L h (p :: q :: r :: rest)) : News h₀ L h (q :: r :: p :: rest) := sub N fun x hx => by
  rcases List.mem_cons.mp hx with rfl | hx
  · exact .tail _ (.head _)
  · rcases List.mem_cons.mp hx with rfl | hx
    · exact .tail _ (.tail _ (.head _))
    · rcases List.mem_cons.mp hx with rfl | hx
      · exact .head _
      · exact .tail _ (.tail _ (.tail _ hx))
theorem news_in {h₀ h : Heap} {L d : Addr} {p q : Addr × Obj} {o : Obj} {rest : Led} (N : News h₀ L h (p :: q :: rest)) (hd : (d, o) ∈ rest) : News h₀ L h ((d, o) :: p :: q :: off d rest) := sub N fun x hx => by
  rcases List.mem_cons.mp hx with rfl | hx
  · exact .tail _ (.tail _ hd)
  · rcases List.mem_cons.mp hx with rfl | hx
    · exact .head _
    · rcases List.mem_cons.mp hx with rfl | hx
      · exact .tail _ (.head _)
      · exact .tail _ (.tail _ (off_sub _ hx))
end
local macro_rules | `(tactic| k_mem) => `(tactic| first | exact List.Mem.head _ | assumption)
local macro_rules | `(tactic| k_room) => `(tactic| (refine room_lt ?_; (try simp only [depth_mark, depth_under_make, depth_under_kw, depth_in1, depth_deeper]); (try dsimp only [ktrTop]); omega))
local macro_rules | `(tactic| k_all) => `(tactic| first | assumption | exact off_ne | exact allLt_ne (by assumption))
local macro_rules | `(tactic| walk_at "pyIter ref") => `(tactic| ((with_reducible show wpAny _ _ (pyIter (Value.ref _)) (fun it s₂ => LoopAtV _ _ _ _ _ _ _ _ _ it s₂) _ _); refine stop ?_))
local macro_rules | `(tactic| k_handed) => `(tactic| assumption)
local macro_rules | `(tactic| walk_at $s:str) => `(tactic| k_extra $s)
section
theorem lay_MSpot : True := by
  k_with_none
  k_with "exec While" => refine stop ?_
  k_with "Back" => refine stop ?_
  k_with "WhileStep" => refine stop ?_
  k_with "call builtin:len" => (k_here; (with_reducible show wpAny _ _ (call (Value.builtin "len") [Value.ref _]) _ _ _); k_dflt (refine' len_L (by k_asm) (by k_mem) (by first | exact List.length_map _ | exact rfl) (by omega) ?_); intro _ _)
  k_with "subscriptTail" => (k_here; (with_reducible show wpAny _ _ (subscriptTail _ _ (Value.ref _) (Value.int _ _)) _ _ _); k_dflt (refine' item_L (by k_asm) (by k_mem) (by first | exact at_refs (by assumption) | assumption | exact rfl) (by omega) ?_ (by with_unfolding_all rfl)))
  k_with "call builtin:list.insert" => (k_here; (with_reducible show wpAny _ _ (call (Value.builtin _) [Value.ref _, Value.int _ _, _]) _ _ _); k_dflt (refine' insert_L (by k_asm) (by k_asm) ?_ ?_ (by k_upd) ?_; (first | assumption | (simp only [List.length_map]; first | assumption | omega)); (simp only [List.length_map]; omega)); intro _ _ _; (try k_sweep))
  k_with "call builtin:list.pop" => (k_here; (with_reducible show wpAny _ _ (call (Value.builtin _) [Value.ref _, Value.int _ _]) _ _ _); k_dflt (refine' pop0_L (by k_asm) (by k_asm) ?_ (by k_upd) ?_; (simp only [List.length_map]; omega)); intro _ _ _; (try k_sweep))
  k_with "call builtin:list.append" => (k_here; (with_reducible show wpAny _ _ (call (Value.builtin _) [Value.ref _, _]) _ _ _); k_dflt (refine' append_L (by k_asm) (by k_asm) ?_ (by k_upd) ?_; (first | omega | (simp only [List.length_map]; omega) | (simp; omega))); intro _ _ _; (try k_sweep))
  k_with "setAttr ref" => (k_here; k_dflt (refine' set_dict (by k_asm) (by k_asm) (by k_asm) (by k_inst) (by exact rfl) (by k_is) (by k_is) (by k_is) (by k_is) (by k_get) (by first | exact put_value | exact put_thread | exact put_index) (by k_upd) (by exact Nat.le_of_ble_eq_true rfl) ?_; k_whole; intro _ _ _; (try k_sweep)))
  k_with "setItem ref int" => (k_here; (with_reducible show wpAny _ _ (setItem (Value.ref _) (Value.int _ _) _) _ _ _); k_dflt (refine' set_L (by k_asm) (by k_asm) (by k_upd) (by first | assumption | omega | (constructor <;> omega)) (by first | omega | (simp only [List.length_map]; omega)) ?_); intro _ _ _; (try k_sweep))
  k_with "exec For Name Attribute cons nil" => refine stop ?_
  k_with "exec For Name Name cons nil" => refine stop ?_
  k_with "TurnE" => refine stop ?_
  trivial
section
variable {w : World} {loose : List Str} {mean : ExcName → Option Value} {mg mb : Str → Option Value} {dp un : Nat} {gd : Option (List Code)} {cn : Str} {cs : Scope} {a : Addr} {ccd : Value} {cl : List (Str × Addr)} {outer : List Env} {A₀ : Around} {base h₀ : Heap} {L : Addr} {m : Str → Option Value} {s : Shared} {Q E : Value → Shared → Prop} {news : Led}
theorem spot_spec {g dg st ou : Addr} {ups : List Up} {ix : Int} {t : Tok}
    (B : Below A₀ base outer h₀) (F : Fr h₀ L s.heap m) (X : (Mine.Hd.top.heap_1 w.params).In h₀) (N : News h₀ L s.heap news) (T : Top VW loose mean mg mb h₀) (hk : cs.kind = .function) (hd : dp ≤ 460) (hu : un ≤ 600)
    (hg : GrAt w.params news g dg st ou) (hl : LiAt news ou (refs ups)) (hlen : ups.length ≤ 100) (hups : Ops w.params news g ups)
    (post : ∀ h' tk' tk, Fr h₀ L h' m → News h₀ L h' news → Q (.int ((spot ups ix : Nat) : Int) tk) { s with heap := h', toks := tk' }) :
    wpAny (model prog w) (ktrTop dp un gd cn cs L a ccd cl outer) (call (.ref 111) [.ref g, .int ix t]) Q E s := by
  obtain ⟨hg1, τg, ng, hg2⟩ := hg
  obtain ⟨nl, hl⟩ := hl
  refine enter (f := 111) (binds := [(Str.ofString "owner", .ref g), (Str.ofString "index", .int ix t)]) B F X N T hk (by omega) (by k_is) (by k_is) (by rfl) (by exact locs rfl) (by rfl) (by rfl) (by rfl) (by decide) ?_
  clear F N
  intro g' L' h₁ tk F N B' X' T'
  k_steps
  refine go (While_inv (fun n m₁ news₁ => news₁ = news ∧ ∃ (i : Nat) (ti : Tok), m₁ = (fun y => if y = Str.ofString "at" then some (Value.int (i : Int) ti) else List.lookup y [(Str.ofString "owner", Value.ref g), (Str.ofString "index", Value.int ix t)].reverse) ∧ i ≤ ups.length ∧ n = ups.length - i ∧ ∀ x ∈ ups.take i, ix < x.ix) (n₀ := ups.length) (by assumption) (by assumption) ⟨rfl, 0, _, rfl, Nat.zero_le _, rfl, by simp⟩ ?_)
  rename_i F N
  clear F N
  rintro n m₁ news₁ h₁ tk₁ F N ⟨rfl, i, ti, rfl, hi, hn, hall⟩
  rcases Nat.lt_or_ge i ups.length with hlt | hge
  · obtain ⟨x, hx⟩ : ∃ x, ups[i]? = some x := ⟨ups[i], by simp [hlt]⟩
    obtain ⟨hx1, τx, nx, hx2⟩ := hups x (List.mem_of_getElem? hx)
    rcases Int.lt_or_le ix x.ix with hgt | hle
    · k_steps
      refine go (WhileStep.intro (n' := ups.length - (i + 1)) (by assumption) (by assumption) (by omega) ⟨rfl, i + 1, _, map_same, hlt, rfl, mem_take_succ hx hall hgt⟩)
    · k_steps
      refine go (back F N fun F9 N9 => ?_)
      rw [show i = spot ups ix from (takeWhile_len (fun y hy => decide_eq_true (hall y hy)) hi (fun y hy => by rw [hx] at hy; cases hy; exact decide_eq_false (by omega))).symm]
      exact post _ _ _ F9 N9
  · k_steps
    refine go (back F N fun F9 N9 => ?_)
    rw [show i = spot ups ix from (takeWhile_len (fun y hy => decide_eq_true (hall y hy)) hi (fun y hy => by rw [List.getElem?_eq_none hge] at hy; cases hy)).symm]
    exact post _ _ _ F9 N9
end
end
section
theorem lay_MFind : True := by
  k_with_none
  k_with "exec While" => refine stop ?_
  k_with "Back" => refine stop ?_
  k_with "WhileStep" => refine stop ?_
  k_with "call builtin:len" => (k_here; (with_reducible show wpAny _ _ (call (Value.builtin "len") [Value.ref _]) _ _ _); k_dflt (refine' len_L (by k_asm) (by k_mem) (by first | exact List.length_map _ | exact rfl) (by omega) ?_); intro _ _)
  k_with "subscriptTail" => (k_here; (with_reducible show wpAny _ _ (subscriptTail _ _ (Value.ref _) (Value.int _ _)) _ _ _); k_dflt (refine' item_L (by k_asm) (by k_mem) (by first | exact at_refs (by assumption) | assumption | exact rfl) (by omega) ?_ (by with_unfolding_all rfl)))
  k_with "call builtin:list.insert" => (k_here; (with_reducible show wpAny _ _ (call (Value.builtin _) [Value.ref _, Value.int _ _, _]) _ _ _); k_dflt (refine' insert_L (by k_asm) (by k_asm) ?_ ?_ (by k_upd) ?_; (first | assumption | (simp only [List.length_map]; first | assumption | omega)); (simp only [List.length_map]; omega)); intro _ _ _; (try k_sweep))
  k_with "call builtin:list.pop" => (k_here; (with_reducible show wpAny _ _ (call (Value.builtin _) [Value.ref _, Value.int _ _]) _ _ _); k_dflt (refine' pop0_L (by k_asm) (by k_asm) ?_ (by k_upd) ?_; (simp only [List.length_map]; omega)); intro _ _ _; (try k_sweep))
  k_with "call builtin:list.append" => (k_here; (with_reducible show wpAny _ _ (call (Value.builtin _) [Value.ref _, _]) _ _ _); k_dflt (refine' append_L (by k_asm) (by k_asm) ?_ (by k_upd) ?_; (first | omega | (simp only [List.length_map]; omega) | (simp; omega))); intro _ _ _; (try k_sweep))
  k_with "setAttr ref" => (k_here; k_dflt (refine' set_dict (by k_asm) (by k_asm) (by k_asm) (by k_inst) (by exact rfl) (by k_is) (by k_is) (by k_is) (by k_is) (by k_get) (by first | exact put_value | exact put_thread | exact put_index) (by k_upd) (by exact Nat.le_of_ble_eq_true rfl) ?_; k_whole; intro _ _ _; (try k_sweep)))
  k_with "setItem ref int" => (k_here; (with_reducible show wpAny _ _ (setItem (Value.ref _) (Value.int _ _) _) _ _ _); k_dflt (refine' set_L (by k_asm) (by k_asm) (by k_upd) (by first | assumption | omega | (constructor <;> omega)) (by first | omega | (simp only [List.length_map]; omega)) ?_); intro _ _ _; (try k_sweep))
  k_with "exec For Name Attribute cons nil" => refine stop ?_
  k_with "exec For Name Name cons nil" => refine stop ?_
  k_with "TurnE" => refine stop ?_
  k_with "call ref" => (k_here; (with_reducible show wpAny _ _ (call (Value.ref 111) _) _ _ _); k_dflt (refine' spot_spec (by k_asm) (by k_asm) (by k_asm) (by k_asm) (by k_asm) (by rfl) (by omega) (by omega) (by assumption) (by assumption) (by assumption) (by assumption) ?_); intro _ _ _ _ _; k_sweep)
  trivial
section
variable {w : World} {loose : List Str} {mean : ExcName → Option Value} {mg mb : Str → Option Value} {dp un : Nat} {gd : Option (List Code)} {cn : Str} {cs : Scope} {a : Addr} {ccd : Value} {cl : List (Str × Addr)} {outer : List Env} {A₀ : Around} {base h₀ : Heap} {L : Addr} {m : Str → Option Value} {s : Shared} {Q E : Value → Shared → Prop} {news : Led}
theorem openAt_spec {g dg st ou : Addr} {ups : List Up} {ix : Int} {t : Tok}
    (B : Below A₀ base outer h₀) (F : Fr h₀ L s.heap m) (X : (Mine.Hd.top.heap_1 w.params).In h₀) (N : News h₀ L s.heap news) (T : Top VW loose mean mg mb h₀) (hk : cs.kind = .function) (hd : dp ≤ 455) (hu : un ≤ 550)
    (hg : GrAt w.params news g dg st ou) (hl : LiAt news ou (refs ups)) (hlen : ups.length ≤ 100) (hups : Ops w.params news g ups)
    (post : ∀ h' tk', Fr h₀ L h' m → News h₀ L h' news → Q (upVal (openAt ups ix)) { s with heap := h', toks := tk' }) :
    wpAny (model prog w) (ktrTop dp un gd cn cs L a ccd cl outer) (call (.ref 118) [.ref g, .int ix t]) Q E s := by
  obtain ⟨hg1, τg, ng, hg2⟩ := id hg
  obtain ⟨nl, hl2⟩ := id hl
  refine enter (f := 118) (binds := [(Str.ofString "owner", .ref g), (Str.ofString "index", .int ix t)]) B F X N T hk (by omega) (by k_is) (by k_is) (by rfl) (by exact locs rfl) (by rfl) (by rfl) (by rfl) (by decide) ?_
  clear F N
  intro g' L' h₁ tk F N B' X' T'
  rcases hx : ups[spot ups ix]? with _ | x
  · have hlt : ups.length ≤ spot ups ix := List.getElem?_eq_none_iff.mp hx
    k_steps
    refine go (back (by assumption) (by assumption) fun F9 N9 => ?_)
    have e : openAt ups ix = none := by unfold openAt; rw [hx]; rfl
    rw [e] at post
    exact post _ _ F9 N9
  · have hlt : spot ups ix < ups.length := (List.getElem?_eq_some_iff.mp hx).1
    obtain ⟨hx1, τx, nx, hx2⟩ := hups x (List.mem_of_getElem? hx)
    by_cases he : x.ix = ix
    · k_steps
      all_goals first | (exfalso; omega) | skip
      refine go (back (by assumption) (by assumption) fun F9 N9 => ?_)
      have e : openAt ups ix = some x := by unfold openAt; rw [hx]; simp [he]
      rw [e] at post
      exact post _ _ F9 N9
    · k_steps
      all_goals first | (exfalso; omega) | skip
      refine go (back (by assumption) (by assumption) fun F9 N9 => ?_)
      have e : openAt ups ix = none := by unfold openAt; rw [hx]; simp [he]
      rw [e] at post
      exact post _ _ F9 N9
theorem putOpen_spec {g dg st ou u d : Addr} {th v : Value} {ups : List Up} {ix : Int} {n : Nat} {rest : Led}
    (B : Below A₀ base outer h₀) (F : Fr h₀ L s.heap m) (X : (Mine.Hd.top.heap_1 w.params).In h₀) (N : News h₀ L s.heap ((ou, listOf (refs ups).toArray n) :: rest)) (T : Top VW loose mean mg mb h₀) (hk : cs.kind = .function) (hd : dp ≤ 455) (hu : un ≤ 550)
    (off : ∀ p ∈ rest, p.1 ≠ ou) (hg : GrAt w.params ((ou, listOf (refs ups).toArray n) :: rest) g dg st ou) (hlen : ups.length ≤ 100) (hups : Ops w.params ((ou, listOf (refs ups).toArray n) :: rest) g ups) (hx : UpAt w.params ((ou, listOf (refs ups).toArray n) :: rest) u d th ix v)
    (post : ∀ h' tk', Fr h₀ L h' m → News h₀ L h' ((ou, listOf (refs (ups.take (spot ups ix) ++ ⟨u, d, ix⟩ :: ups.drop (spot ups ix))).toArray (n + 1)) :: rest) → Q .none { s with heap := h', toks := tk' }) :
    wpAny (model prog w) (ktrTop dp un gd cn cs L a ccd cl outer) (call (.ref 125) [.ref g, .ref u]) Q E s := by
  obtain ⟨hg1, τg, ng, hg2⟩ := id hg
  obtain ⟨hx1, τx, nx, hx2⟩ := id hx
  have hl : LiAt ((ou, listOf (refs ups).toArray n) :: rest) ou (refs ups) := ⟨n, .head _⟩
  refine enter (f := 125) (binds := [(Str.ofString "owner", .ref g), (Str.ofString "upval", .ref u)]) B F X N T hk (by omega) (by k_is) (by k_is) (by rfl) (by exact locs rfl) (by rfl) (by rfl) (by rfl) (by decide) ?_
  clear F N
  intro g' L' h₁ tk F N B' X' T'
  have hs : spot ups ix ≤ ups.length := spot_le
  k_steps
  refine go (back (by assumption) (by assumption) fun F9 N9 => post _ _ F9 ?_)
  simpa [refs, List.map_take, List.map_drop] using N9
end
section
variable {w : World} {loose : List Str} {mean : ExcName → Option Value} {mg mb : Str → Option Value} {dp un : Nat} {gd : Option (List Code)} {cn : Str} {cs : Scope} {a : Addr} {ccd : Value} {cl : List (Str × Addr)} {outer : List Env} {A₀ : Around} {base h₀ : Heap} {L : Addr} {m : Str → Option Value} {s : Shared} {Q E : Value → Shared → Prop} {news : Led}
theorem lay_MFind1 : True := by
  k_with "call ref" => (first | (with_reducible show wpAny _ _ (call (Value.ref 118) _) _ _ _) | (with_reducible show wpAny _ _ (call (Value.ref 125) _) _ _ _)); refine stop ?_
  trivial
theorem find_spec {g dg st ou : Addr} {ups : List Up} {ix : Int} {t : Tok} {n : Nat} {rest : Led}
    (B : Below A₀ base outer h₀) (F : Fr h₀ L s.heap m) (X : (Mine.Hd.top.heap_1 w.params).In h₀) (N : News h₀ L s.heap ((ou, listOf (refs ups).toArray n) :: rest)) (T : Top VW loose mean mg mb h₀) (hk : cs.kind = .function) (hd : dp ≤ 450) (hu : un ≤ 500)
    (off : ∀ p ∈ rest, p.1 ≠ ou) (hg : GrAt w.params ((ou, listOf (refs ups).toArray n) :: rest) g dg st ou) (hlen : ups.length ≤ 100) (hups : Ops w.params ((ou, listOf (refs ups).toArray n) :: rest) g ups)
    (there : ∀ x h' tk', openAt ups ix = some x → Fr h₀ L h' m → News h₀ L h' ((ou, listOf (refs ups).toArray n) :: rest) → Q (.ref x.u) { s with heap := h', toks := tk' })
    (new : ∀ u d τ k h' tk', openAt ups ix = none → Fr h₀ L h' m → News h₀ L h' ((ou, listOf (refs (ups.take (spot ups ix) ++ ⟨u, d, ix⟩ :: ups.drop (spot ups ix))).toArray (n + 1)) :: (u, instObj 81 d) :: (d, dictOf (upEs w.params τ (.ref g) ix .none) k) :: rest) →
      (∀ p ∈ rest, p.1 < d) → ou < d → d < u → Q (.ref u) { s with heap := h', toks := tk' }) :
    wpAny (model prog w) (ktrTop dp un gd cn cs L a ccd cl outer) (call (.ref 132) [.ref g, .int ix t]) Q E s := by
  obtain ⟨hg1, τg, ng, hg2⟩ := id hg
  have hl : LiAt ((ou, listOf (refs ups).toArray n) :: rest) ou (refs ups) := ⟨n, .head _⟩
  refine enter (f := 132) (binds := [(Str.ofString "owner", .ref g), (Str.ofString "index", .int ix t)]) B F X N T hk (by omega) (by k_is) (by k_is) (by rfl) (by exact locs rfl) (by rfl) (by rfl) (by rfl) (by decide) ?_
  clear F N
  intro g' L' h₁ tk F N B' X' T'
  k_steps
  refine go (openAt_spec (by assumption) (by assumption) X' (by assumption) T' rfl (by omega) (by omega) hg hl hlen hups fun h2 tk2 F2 N2 => ?_)
  clear F N
  rcases e : openAt ups ix with _ | x
  · dsimp only [upVal]
    k_steps
    rename Fr g' L' _ _ => F3
    rename News g' L' _ _ => N3
    rename _ ∧ AllLt _ rest => l1
    rename @LT.lt Nat _ _ _ => l2
    obtain ⟨l1, l1'⟩ := l1
    have N4 := news3 N3
    refine' go (putOpen_spec (dg := dg) (st := st) (th := .ref g) (v := .none) (ix := ix) (by assumption) F3 X' N4 T' rfl (by omega) (by omega) ?o1 ?o2 hlen ?o3 ?o4 ?_)
    case o4 => exact ⟨.tail _ (.head _), _, _, .tail _ (.tail _ (.head _))⟩
    case o1 =>
      intro p hp
      rcases List.mem_cons.mp hp with rfl | hp
      · exact Nat.ne_of_gt (Nat.lt_trans l1 l2)
      · rcases List.mem_cons.mp hp with rfl | hp
        · exact Nat.ne_of_gt l1
        · exact off p hp
    case o2 => exact hg.mono (fun o h => mem_mid2 h) fun o h => mem_mid2 h
    case o3 => exact fun x hx => (hups x hx).mono (fun o h => mem_mid2 h) fun o h => mem_mid2 h
    · clear F3 N3 N4
      intro h4 tk4 F4 N4
      k_steps
      refine go (back (by assumption) (by assumption) fun F9 N9 => ?_)
      exact new _ _ _ _ _ _ e F9 N9 (allLt_lt l1') l1 l2
  · dsimp only [upVal]
    k_steps
    refine go (back (by assumption) (by assumption) fun F9 N9 => ?_)
    exact there _ _ _ e F9 N9
end
end
section
theorem lay_MClose : True := by
  k_with_none
  k_with "exec While" => refine stop ?_
  k_with "Back" => refine stop ?_
  k_with "WhileStep" => refine stop ?_
  k_with "call builtin:len" => (k_here; (with_reducible show wpAny _ _ (call (Value.builtin "len") [Value.ref _]) _ _ _); k_dflt (refine' len_L (by k_asm) (by k_mem) (by first | exact List.length_map _ | exact rfl) (by omega) ?_); intro _ _)
  k_with "subscriptTail" => (k_here; (with_reducible show wpAny _ _ (subscriptTail _ _ (Value.ref _) (Value.int _ _)) _ _ _); k_dflt (refine' item_L (by k_asm) (by k_mem) (by first | exact at_refs (by assumption) | assumption | exact rfl) (by omega) ?_ (by with_unfolding_all rfl)))
  k_with "call builtin:list.insert" => (k_here; (with_reducible show wpAny _ _ (call (Value.builtin _) [Value.ref _, Value.int _ _, _]) _ _ _); k_dflt (refine' insert_L (by k_asm) (by k_asm) ?_ ?_ (by k_upd) ?_; (first | assumption | (simp only [List.length_map]; first | assumption | omega)); (simp only [List.length_map]; omega)); intro _ _ _; (try k_sweep))
  k_with "call builtin:list.pop" => (k_here; (with_reducible show wpAny _ _ (call (Value.builtin _) [Value.ref _, Value.int _ _]) _ _ _); k_dflt (refine' pop0_L (by k_asm) (by k_asm) ?_ (by k_upd) ?_; (simp only [List.length_map]; omega)); intro _ _ _; (try k_sweep))
  k_with "call builtin:list.append" => (k_here; (with_reducible show wpAny _ _ (call (Value.builtin _) [Value.ref _, _]) _ _ _); k_dflt (refine' append_L (by k_asm) (by k_asm) ?_ (by k_upd) ?_; (first | omega | (simp only [List.length_map]; omega) | (simp; omega))); intro _ _ _; (try k_sweep))
  k_with "setAttr ref" => (k_here; k_dflt (refine' set_dict (by k_asm) (by k_asm) (by k_asm) (by k_inst) (by exact rfl) (by k_is) (by k_is) (by k_is) (by k_is) (by k_get) (by first | exact put_value | exact put_thread | exact put_index) (by k_upd) (by exact Nat.le_of_ble_eq_true rfl) ?_; k_whole; intro _ _ _; (try k_sweep)))
  k_with "setItem ref int" => (k_here; (with_reducible show wpAny _ _ (setItem (Value.ref _) (Value.int _ _) _) _ _ _); k_dflt (refine' set_L (by k_asm) (by k_asm) (by k_upd) (by first | assumption | omega | (constructor <;> omega)) (by first | omega | (simp only [List.length_map]; omega)) ?_); intro _ _ _; (try k_sweep))
  k_with "exec For Name Attribute cons nil" => refine stop ?_
  k_with "exec For Name Name cons nil" => refine stop ?_
  k_with "TurnE" => refine stop ?_
  trivial
section
variable {w : World} {loose : List Str} {mean : ExcName → Option Value} {mg mb : Str → Option Value} {dp un : Nat} {gd : Option (List Code)} {cn : Str} {cs : Scope} {a : Addr} {ccd : Value} {cl : List (Str × Addr)} {outer : List Env} {A₀ : Around} {base h₀ : Heap} {L : Addr} {m : Str → Option Value} {s : Shared} {Q E : Value → Shared → Prop} {news : Led}
theorem close_spec {g dg st ou u d : Addr} {v₀ val : Value} {vals : List Value} {ix : Int} {τ : UT} {n : Nat} {rest : Led}
    (B : Below A₀ base outer h₀) (F : Fr h₀ L s.heap m) (X : (Mine.Hd.top.heap_1 w.params).In h₀) (N : News h₀ L s.heap ((d, dictOf (upEs w.params τ (.ref g) ix v₀) n) :: rest)) (T : Top VW loose mean mg mb h₀) (hk : cs.kind = .function) (hd : dp ≤ 460) (hu : un ≤ 600)
    (off : ∀ p ∈ rest, p.1 ≠ d) (hx : (u, instObj 81 d) ∈ rest) (hg : GrAt w.params rest g dg st ou) (hl : LiAt rest st vals) (hv : vals[ix.toNat]? = some val) (h0 : 0 ≤ ix) (h1 : ix ≤ 1000)
    (post : ∀ τ' h' tk', Fr h₀ L h' m → News h₀ L h' ((d, dictOf (upEs w.params τ' .none (-1) val) n) :: rest) → Q .none { s with heap := h', toks := tk' }) :
    wpAny (model prog w) (ktrTop dp un gd cn cs L a ccd cl outer) (call (.ref 78) [.ref u]) Q E s := by
  obtain ⟨hg1, τg, ng, hg2⟩ := id hg
  obtain ⟨nl, hl2⟩ := id hl
  refine enter (f := 78) (binds := [(Str.ofString "self", .ref u)]) B F X N T hk (by omega) (by k_is) (by k_is) (by rfl) (by exact locs rfl) (by rfl) (by rfl) (by rfl) (by decide) ?_
  clear F N
  intro g' L' h₁ tk F N B' X' T'
  k_steps
  refine go (back (by assumption) (by assumption) fun F9 N9 => post _ _ _ F9 N9)
theorem getOpen_spec {g dg st ou u d : Addr} {v₀ val : Value} {vals : List Value} {ix : Int}
    (B : Below A₀ base outer h₀) (F : Fr h₀ L s.heap m) (X : (Mine.Hd.top.heap_1 w.params).In h₀) (N : News h₀ L s.heap news) (T : Top VW loose mean mg mb h₀) (hk : cs.kind = .function) (hd : dp ≤ 460) (hu : un ≤ 600)
    (hx : UpAt w.params news u d (.ref g) ix v₀) (hg : GrAt w.params news g dg st ou) (hl : LiAt news st vals) (hv : vals[ix.toNat]? = some val) (h0 : 0 ≤ ix) (h1 : ix ≤ 1000)
    (post : ∀ h' tk', Fr h₀ L h' m → News h₀ L h' news → Q val { s with heap := h', toks := tk' }) :
    wpAny (model prog w) (ktrTop dp un gd cn cs L a ccd cl outer) (call (.ref 64) [.ref u]) Q E s := by
  obtain ⟨hg1, τg, ng, hg2⟩ := id hg
  obtain ⟨hx1, τx, nx, hx2⟩ := id hx
  obtain ⟨nl, hl2⟩ := id hl
  refine enter (f := 64) (binds := [(Str.ofString "self", .ref u)]) B F X N T hk (by omega) (by k_is) (by k_is) (by rfl) (by exact locs rfl) (by rfl) (by rfl) (by rfl) (by decide) ?_
  clear F N
  intro g' L' h₁ tk F N B' X' T'
  k_steps
  refine go (back (by assumption) (by assumption) fun F9 N9 => post _ _ F9 N9)
theorem getShut_spec {u d : Addr} {v : Value} {ix : Int}
    (B : Below A₀ base outer h₀) (F : Fr h₀ L s.heap m) (X : (Mine.Hd.top.heap_1 w.params).In h₀) (N : News h₀ L s.heap news) (T : Top VW loose mean mg mb h₀) (hk : cs.kind = .function) (hd : dp ≤ 460) (hu : un ≤ 600)
    (hx : UpAt w.params news u d .none ix v) (hh : handedIn v = true)
    (post : ∀ h' tk', Fr h₀ L h' m → News h₀ L h' news → Q v { s with heap := h', toks := tk' }) :
    wpAny (model prog w) (ktrTop dp un gd cn cs L a ccd cl outer) (call (.ref 64) [.ref u]) Q E s := by
  obtain ⟨hx1, τx, nx, hx2⟩ := id hx
  refine enter (f := 64) (binds := [(Str.ofString "self", .ref u)]) B F X N T hk (by omega) (by k_is) (by k_is) (by rfl) (by exact locs rfl) (by rfl) (by rfl) (by rfl) (by decide) ?_
  clear F N
  intro g' L' h₁ tk F N B' X' T'
  k_steps
  refine go (back (by assumption) (by assumption) fun F9 N9 => post _ _ F9 N9)
theorem setOpen_spec {g dg st ou u d : Addr} {v₀ v : Value} {vals : List Value} {ix : Int} {n : Nat} {rest : Led}
    (B : Below A₀ base outer h₀) (F : Fr h₀ L s.heap m) (X : (Mine.Hd.top.heap_1 w.params).In h₀) (N : News h₀ L s.heap ((st, listOf vals.toArray n) :: rest)) (T : Top VW loose mean mg mb h₀) (hk : cs.kind = .function) (hd : dp ≤ 460) (hu : un ≤ 600)
    (off : ∀ p ∈ rest, p.1 ≠ st) (hx : UpAt w.params rest u d (.ref g) ix v₀) (hg : GrAt w.params rest g dg st ou) (h0 : 0 ≤ ix) (h1 : ix < vals.length) (hz : vals.length ≤ 1000)
    (post : ∀ h' tk', Fr h₀ L h' m → News h₀ L h' ((st, listOf (vals.set ix.toNat v).toArray n) :: rest) → Q .none { s with heap := h', toks := tk' }) :
    wpAny (model prog w) (ktrTop dp un gd cn cs L a ccd cl outer) (call (.ref 71) [.ref u, v]) Q E s := by
  obtain ⟨hg1, τg, ng, hg2⟩ := id hg
  obtain ⟨hx1, τx, nx, hx2⟩ := id hx
  refine enter (f := 71) (binds := [(Str.ofString "self", .ref u), (Str.ofString "value", v)]) B F X N T hk (by omega) (by k_is) (by k_is) (by rfl) (by exact locs rfl) (by rfl) (by rfl) (by rfl) (by decide) ?_
  clear F N
  intro g' L' h₁ tk F N B' X' T'
  k_steps
  refine go (back (by assumption) (by assumption) fun F9 N9 => post _ _ F9 N9)
theorem setShut_spec {u d : Addr} {v₀ v : Value} {ix : Int} {τ : UT} {n : Nat} {rest : Led}
    (B : Below A₀ base outer h₀) (F : Fr h₀ L s.heap m) (X : (Mine.Hd.top.heap_1 w.params).In h₀) (N : News h₀ L s.heap ((d, dictOf (upEs w.params τ .none ix v₀) n) :: rest)) (T : Top VW loose mean mg mb h₀) (hk : cs.kind = .function) (hd : dp ≤ 460) (hu : un ≤ 600)
    (off : ∀ p ∈ rest, p.1 ≠ d) (hx : (u, instObj 81 d) ∈ rest)
    (post : ∀ h' tk', Fr h₀ L h' m → News h₀ L h' ((d, dictOf (upEs w.params τ .none ix v) n) :: rest) → Q .none { s with heap := h', toks := tk' }) :
    wpAny (model prog w) (ktrTop dp un gd cn cs L a ccd cl outer) (call (.ref 71) [.ref u, v]) Q E s := by
  refine enter (f := 71) (binds := [(Str.ofString "self", .ref u), (Str.ofString "value", v)]) B F X N T hk (by omega) (by k_is) (by k_is) (by rfl) (by exact locs rfl) (by rfl) (by rfl) (by rfl) (by decide) ?_
  clear F N
  intro g' L' h₁ tk F N B' X' T'
  k_steps
  refine go (back (by assumption) (by assumption) fun F9 N9 => post _ _ F9 N9)
def hasOpen (ups : List Up) (level : Int) : Bool := match ups with
  | [] => false
  | x :: _ => decide (level ≤ x.ix)
theorem hasOpen_spec {g dg st ou : Addr} {ups : List Up} {level : Int} {t : Tok}
    (B : Below A₀ base outer h₀) (F : Fr h₀ L s.heap m) (X : (Mine.Hd.top.heap_1 w.params).In h₀) (N : News h₀ L s.heap news) (T : Top VW loose mean mg mb h₀) (hk : cs.kind = .function) (hd : dp ≤ 460) (hu : un ≤ 600)
    (hg : GrAt w.params news g dg st ou) (hl : LiAt news ou (refs ups)) (hlen : ups.length ≤ 100) (hups : Ops w.params news g ups)
    (post : ∀ h' tk', Fr h₀ L h' m → News h₀ L h' news → Q (.bool (hasOpen ups level)) { s with heap := h', toks := tk' }) :
    wpAny (model prog w) (ktrTop dp un gd cn cs L a ccd cl outer) (call (.ref 146) [.ref g, .int level t]) Q E s := by
  obtain ⟨hg1, τg, ng, hg2⟩ := id hg
  obtain ⟨nl, hl2⟩ := id hl
  refine enter (f := 146) (binds := [(Str.ofString "owner", .ref g), (Str.ofString "level", .int level t)]) B F X N T hk (by omega) (by k_is) (by k_is) (by rfl) (by exact locs rfl) (by rfl) (by rfl) (by rfl) (by decide) ?_
  clear F N
  intro g' L' h₁ tk F N B' X' T'
  rcases ups with _ | ⟨x, r⟩
  · k_steps
    refine go (back (by assumption) (by assumption) fun F9 N9 => post _ _ F9 N9)
  · obtain ⟨hx1, τx, nx, hx2⟩ := hups x (.head _)
    k_steps
    all_goals first | (exfalso; rename ¬ _ => hq; exact hq (by simp only [List.length_cons]; omega)) | skip
    refine go (back (by assumption) (by assumption) fun F9 N9 => post _ _ F9 N9)
end
end
section
theorem lay_MTake : True := by
  k_with_none
  k_with "exec While" => refine stop ?_
  k_with "Back" => refine stop ?_
  k_with "WhileStep" => refine stop ?_
  k_with "call builtin:len" => (k_here; (with_reducible show wpAny _ _ (call (Value.builtin "len") [Value.ref _]) _ _ _); k_dflt (refine' len_L (by k_asm) (by k_mem) (by first | exact List.length_map _ | exact rfl) (by omega) ?_); intro _ _)
  k_with "subscriptTail" => (k_here; (with_reducible show wpAny _ _ (subscriptTail _ _ (Value.ref _) (Value.int _ _)) _ _ _); k_dflt (refine' item_L (by k_asm) (by k_mem) (by first | exact at_refs (by assumption) | assumption | exact rfl) (by omega) ?_ (by with_unfolding_all rfl)))
  k_with "call builtin:list.insert" => (k_here; (with_reducible show wpAny _ _ (call (Value.builtin _) [Value.ref _, Value.int _ _, _]) _ _ _); k_dflt (refine' insert_L (by k_asm) (by k_asm) ?_ ?_ (by k_upd) ?_; (first | assumption | (simp only [List.length_map]; first | assumption | omega)); (simp only [List.length_map]; omega)); intro _ _ _; (try k_sweep))
  k_with "call builtin:list.pop" => (k_here; (with_reducible show wpAny _ _ (call (Value.builtin _) [Value.ref _, Value.int _ _]) _ _ _); k_dflt (refine' pop0_L (by k_asm) (by k_asm) ?_ (by k_upd) ?_; (simp only [List.length_map]; omega)); intro _ _ _; (try k_sweep))
  k_with "call builtin:list.append" => (k_here; (with_reducible show wpAny _ _ (call (Value.builtin _) [Value.ref _, _]) _ _ _); k_dflt (refine' append_L (by k_asm) (by k_asm) ?_ (by k_upd) ?_; (first | omega | (simp only [List.length_map]; omega) | (simp; omega))); intro _ _ _; (try k_sweep))
  k_with "setAttr ref" => (k_here; k_dflt (refine' set_dict (by k_asm) (by k_asm) (by k_asm) (by k_inst) (by exact rfl) (by k_is) (by k_is) (by k_is) (by k_is) (by k_get) (by first | exact put_value | exact put_thread | exact put_index) (by k_upd) (by exact Nat.le_of_ble_eq_true rfl) ?_; k_whole; intro _ _ _; (try k_sweep)))
  k_with "setItem ref int" => (k_here; (with_reducible show wpAny _ _ (setItem (Value.ref _) (Value.int _ _) _) _ _ _); k_dflt (refine' set_L (by k_asm) (by k_asm) (by k_upd) (by first | assumption | omega | (constructor <;> omega)) (by first | omega | (simp only [List.length_map]; omega)) ?_); intro _ _ _; (try k_sweep))
  k_with "exec For Name Attribute cons nil" => refine stop ?_
  k_with "exec For Name Name cons nil" => refine stop ?_
  k_with "TurnE" => refine stop ?_
  trivial
section
variable {w : World} {loose : List Str} {mean : ExcName → Option Value} {mg mb : Str → Option Value} {dp un : Nat} {gd : Option (List Code)} {cn : Str} {cs : Scope} {a : Addr} {ccd : Value} {cl : List (Str × Addr)} {outer : List Env} {A₀ : Around} {base h₀ : Heap} {L : Addr} {m : Str → Option Value} {s : Shared} {Q E : Value → Shared → Prop} {news : Led}
theorem check_spec {g dg st ou : Addr} {ups : List Up} {vals : List Value}
    (B : Below A₀ base outer h₀) (F : Fr h₀ L s.heap m) (X : (Mine.Hd.top.heap_1 w.params).In h₀) (N : News h₀ L s.heap news) (T : Top VW loose mean mg mb h₀) (hk : cs.kind = .function) (hd : dp ≤ 460) (hu : un ≤ 600)
    (hG : Grd w.params news g dg st ou vals ups) (hs : ups.Pairwise fun x y => y.ix < x.ix)
    (post : ∀ h' tk', Fr h₀ L h' m → News h₀ L h' news → Q (.bool true) { s with heap := h', toks := tk' }) :
    wpAny (model prog w) (ktrTop dp un gd cn cs L a ccd cl outer) (call (.ref 153) [.ref g]) Q E s := by
  obtain ⟨hg1, τg, ng, hg2⟩ := hG.gr
  obtain ⟨nl, hl2⟩ := hG.opn
  obtain ⟨nv, hv2⟩ := hG.stk
  have hvl := hG.vlen
  refine enter (f := 153) (binds := [(Str.ofString "owner", .ref g)]) B F X N T hk (by omega) (by k_is) (by k_is) (by rfl) (by exact locs rfl) (by rfl) (by rfl) (by rfl) (by decide) ?_
  clear F N
  intro g' L' h₁ tk F N B' X' T'
  k_steps
  rename Fr g' L' _ _ => F3
  rename News g' L' _ _ => N3
  refine go (For_invV g' (by exact rfl) (by exact rfl) ?_)
  k_steps
  refine go (for_L (fun i m₁ news₁ => news₁ = news ∧ ∃ (av : Int) (ta : Tok) (uv : Option Value), m₁ = (fun y => if y = Str.ofString "upval" then uv else if y = Str.ofString "ahead" then some (.int av ta) else List.lookup y [(Str.ofString "owner", Value.ref g)].reverse) ∧ ∀ x ∈ ups.drop i, x.ix < av)
    rfl F3 N3 hl2 ⟨rfl, _, _, none, map_start (by rfl) (by decide), ?_⟩ ?_ ?_)
  · intro x hx
    exact (hG.rng x (by simpa using hx)).2
  · clear F3 N3
    rintro i v m₁ news₁ I h tk oI hi ⟨rfl, av, ta, uv, rfl, hav⟩ hm hI F N
    obtain ⟨x, hx, rfl⟩ : ∃ x, ups[i]? = some x ∧ v = .ref x.u := by
      rw [List.getElem?_map] at hi
      obtain ⟨x, hx, e⟩ := Option.map_eq_some_iff.mp hi
      exact ⟨x, hx, e.symm⟩
    have hmem := List.mem_of_getElem? hx
    obtain ⟨hx1, τx, nx, hx2⟩ := hG.ops x hmem
    obtain ⟨h0, h1⟩ := hG.rng x hmem
    have h2 : x.ix < av := hav x (by
      rw [List.drop_eq_getElem?_toList_append, hx]; simp)
    k_steps
    exact go (turnE (news' := news₁) (by assumption) (by assumption) (fun p hp => hp) (fun p hp => by rw [List.mem_singleton.mp hp]; exact hl2) hI ⟨rfl, x.ix, _, _, map_swap (by decide), pairwise_after hs hx⟩)
  · clear F3 N3
    rintro m₁ news₁ h tk ⟨rfl, av, ta, uv, rfl, hav⟩ hm F N
    k_steps
    refine go (back F N fun F9 N9 => post _ _ F9 N9)
end
section
variable {w : World} {loose : List Str} {mean : ExcName → Option Value} {mg mb : Str → Option Value} {dp un : Nat} {gd : Option (List Code)} {cn : Str} {cs : Scope} {a : Addr} {ccd : Value} {cl : List (Str × Addr)} {outer : List Env} {A₀ : Around} {base h₀ : Heap} {L : Addr} {m : Str → Option Value} {s : Shared} {Q E : Value → Shared → Prop} {news : Led}
theorem lay_MTake1 : True := by
  k_with "call ref" => ((with_reducible show wpAny _ _ (call (Value.ref 78) _) _ _ _); refine stop ?_)
  trivial
theorem take_spec {g dg st ou : Addr} {ups : List Up} {vals : List Value} {level : Int} {t : Tok} {n : Nat} {rest : Led}
    (B : Below A₀ base outer h₀) (F : Fr h₀ L s.heap m) (X : (Mine.Hd.top.heap_1 w.params).In h₀) (N : News h₀ L s.heap ((ou, listOf (refs ups).toArray n) :: rest)) (T : Top VW loose mean mg mb h₀) (hk : cs.kind = .function) (hd : dp ≤ 450) (hu : un ≤ 500)
    (hoff : ∀ p ∈ rest, p.1 ≠ ou) (hg : GrAt w.params rest g dg st ou) (hst : LiAt rest st vals) (hops : Ops w.params rest g ups) (nd : (ups.map (·.d)).Nodup) (hlen : ups.length ≤ 100) (hvl : vals.length ≤ 1000) (hr : ∀ x ∈ ups, 0 ≤ x.ix ∧ x.ix < vals.length)
    (post : ∀ l rest' k j h' tk', Fr h₀ L h' m → News h₀ L h' ((ou, listOf (refs (ups.dropWhile fun x => decide (level ≤ x.ix))).toArray k) :: (l, listOf (refs (ups.takeWhile fun x => decide (level ≤ x.ix))).toArray j) :: rest') →
      (∀ p ∈ rest, p.1 < l) → ou < l → Clo w.params vals rest (ups.takeWhile fun x => decide (level ≤ x.ix)) rest' → Q (.ref l) { s with heap := h', toks := tk' }) :
    wpAny (model prog w) (ktrTop dp un gd cn cs L a ccd cl outer) (call (.ref 139) [.ref g, .int level t]) Q E s := by
  obtain ⟨hg1, τg, ng, hg2⟩ := id hg
  obtain ⟨nv, hv2⟩ := id hst
  have N0 : News h₀ L s.heap rest := sub N fun p hp => .tail _ hp
  refine enter (f := 139) (binds := [(Str.ofString "owner", .ref g), (Str.ofString "level", .int level t)]) B F X N T hk (by omega) (by k_is) (by k_is) (by rfl) (by exact locs rfl) (by rfl) (by rfl) (by rfl) (by decide) ?_
  clear F N
  intro g' L' h₁ tk F N B' X' T'
  k_steps
  rename Fr g' L' _ _ => F3
  rename News g' L' _ _ => N3
  rename _ ∧ AllLt _ rest => l1
  obtain ⟨hol, hal⟩ := l1
  rename_i l _ _
  have hal' := allLt_lt hal
  have hd' : ∀ p : Addr × Obj, ∀ done : List Up, (∀ x ∈ done, x ∈ ups) → p ∈ rest → mk p.2 ≠ (2, 6) → p.1 ∉ done.map (·.d) := fun p done hdone hp hm hin => by
    obtain ⟨y, hy, e⟩ := List.mem_map.mp hin
    obtain ⟨hy1, τy, ny, hy2⟩ := hops y (hdone y hy)
    exact ne_mk N0 hp hy2 (by rw [mk_up]; exact hm) e.symm
  refine go (While_inv (fun n m₁ news₁ => ∃ (done left : List Up) (rest₁ : Led) (k j : Nat) (uv : Option Value), ups = done ++ left ∧ n = left.length ∧ news₁ = (ou, listOf (refs left).toArray k) :: (l, listOf (refs done).toArray j) :: rest₁ ∧
      m₁ = (fun y => if y = Str.ofString "upval" then uv else if y = Str.ofString "found" then some (.ref l) else List.lookup y [(Str.ofString "owner", Value.ref g), (Str.ofString "level", Value.int level t)].reverse) ∧ (∀ x ∈ done, level ≤ x.ix) ∧ Clo w.params vals rest done rest₁) (n₀ := ups.length)
    F3 (news_swap N3) ⟨[], ups, rest, n, 0, none, rfl, rfl, rfl, map_start (by rfl) (by decide), (fun _ h => nomatch h), Clo.nil⟩ ?_)
  clear F3 N3
  rintro n₁ m₁ news₁ h₁ tk₁ F N ⟨done, left, rest₁, k, j, uv, hu, rfl, rfl, rfl, hdone, c⟩
  have hin : ∀ x ∈ done, x ∈ ups := fun x hx => by rw [hu]; exact List.mem_append_left _ hx
  have hg' : GrAt w.params rest₁ g dg st ou := ⟨c.keep _ hg1 (hd' _ done hin hg1 (by rw [mk_inst]; decide)), τg, ng, c.keep _ hg2 (hd' _ done hin hg2 (by rw [mk_gr]; decide))⟩
  have hst' : LiAt rest₁ st vals := ⟨nv, c.keep _ hv2 (hd' _ done hin hv2 (by rw [mk_list]; decide))⟩
  obtain ⟨hg1', τg', ng', hg2'⟩ := id hg'
  have hoff₁ : ∀ p ∈ rest₁, p.1 ≠ ou := fun p hp => let ⟨o, ho⟩ := c.dom p hp; hoff (p.1, o) ho
  have hl₁ : ∀ p ∈ rest₁, p.1 ≠ l := fun p hp => let ⟨o, ho⟩ := c.dom p hp; Nat.ne_of_lt (hal' (p.1, o) ho)
  have hle : left.length ≤ 100 := by rw [hu, List.length_append] at hlen; omega
  have hde : done.length ≤ 100 := by rw [hu, List.length_append] at hlen; omega
  rcases left with _ | ⟨x, r⟩
  · k_steps
    all_goals first | (exfalso; omega) | skip
    refine go (back F N fun F9 N9 => ?_)
    rw [List.append_nil] at hu
    subst hu
    have e1 : (ups.takeWhile fun x => decide (level ≤ x.ix)) = ups := by have := List.takeWhile_append_of_pos (p := fun x : Up => decide (level ≤ x.ix)) (l₁ := ups) (l₂ := []) (fun y hy => decide_eq_true (hdone y hy)); simpa using this
    have e2 : (ups.dropWhile fun x => decide (level ≤ x.ix)) = [] := by
      have := List.takeWhile_append_dropWhile (p := fun x : Up => decide (level ≤ x.ix)) (l := ups)
      rw [e1] at this
      simpa using this
    rw [e1, e2] at post
    exact post l rest₁ _ _ _ _ F9 N9 hal' hol c
  · have hxm : x ∈ ups := by rw [hu]; exact List.mem_append_right _ (.head _)
    obtain ⟨hx1, τx, nx, hx2⟩ := hops x hxm
    have hxd : x.d ∉ done.map (·.d) := by
      rw [hu, List.map_append, List.nodup_append] at nd
      exact fun h => nd.2.2 _ h _ (by simp) rfl
    have hx1' := c.keep _ hx1 (hd' _ done hin hx1 (by rw [mk_inst]; decide))
    have hx2' := c.keep _ hx2 hxd
    have hr9 : r.length ≤ 99 := by simp only [List.length_cons] at hle; omega
    rcases Int.lt_or_le x.ix level with hlt | hge
    · k_steps
      all_goals first | (exfalso; rename ¬ _ => hq; exact hq (by simp only [List.length_cons]; omega)) | skip
      refine go (back F N fun F9 N9 => ?_)
      have e1 : (ups.takeWhile fun x => decide (level ≤ x.ix)) = done := by
        rw [hu, List.takeWhile_append_of_pos (fun y hy => decide_eq_true (hdone y hy)), List.takeWhile_cons, if_neg (by simpa using hlt), List.append_nil]
      have e2 : (ups.dropWhile fun x => decide (level ≤ x.ix)) = x :: r := by
        rw [hu, List.dropWhile_append_of_pos (fun y hy => decide_eq_true (hdone y hy)), List.dropWhile_cons, if_neg (by simpa using hlt)]
      rw [e1, e2] at post
      exact post l rest₁ _ _ _ _ F9 N9 hal' hol c
    · k_steps
      all_goals first | (exfalso; rename ¬ _ => hq; exact hq (by simp only [List.length_cons]; omega)) | skip
      rename Fr g' L' _ _ => F3
      rename News g' L' _ _ => N3
      have hud : x.u ≠ x.d := ne_mk N0 hx1 hx2 (by rw [mk_inst, mk_up]; decide)
      have hgd : g ≠ x.d := ne_mk N0 hg1 hx2 (by rw [mk_inst, mk_up]; decide)
      have hdd : dg ≠ x.d := ne_mk N0 hg2 hx2 (by rw [mk_gr, mk_up]; decide)
      have hsd : st ≠ x.d := ne_mk N0 hv2 hx2 (by rw [mk_list, mk_up]; decide)
      have hod : ou ≠ x.d := Ne.symm (hoff _ hx2)
      have hld : l ≠ x.d := Nat.ne_of_gt (hal' _ hx2)
      obtain ⟨h0, h1⟩ := hr x hxm
      obtain ⟨val, hval⟩ : ∃ v, vals[x.ix.toNat]? = some v := ⟨vals[x.ix.toNat]'(by omega), List.getElem?_eq_getElem _⟩
      refine go (close_spec (g := g) (dg := dg) (st := st) (ou := ou) (vals := vals) (val := val) (by assumption) F3 X' (news_in N3 hx2') T' rfl (by omega) (by omega) ?_ (.tail _ (.tail _ (mem_off_of hx1' hud))) (hg'.mono (fun o h => .tail _ (.tail _ (mem_off_of h hgd))) fun o h => .tail _ (.tail _ (mem_off_of h hdd)))
        (hst'.mono fun o h => .tail _ (.tail _ (mem_off_of h hsd))) hval h0 (by omega) fun τ' h4 tk4 F4 N4 => ?_)
      · intro p hp
        rcases List.mem_cons.mp hp with rfl | hp
        · exact hod
        · rcases List.mem_cons.mp hp with rfl | hp
          · exact hld
          · exact off_ne p hp
      · clear F3 N3
        have c' := c.snoc (τ := τ') (k := nx) hx1' hud hxd (fun y hy => ne_mk N0 (hops y (hin y hy)).1 hx2 (by rw [mk_inst, mk_up]; decide)) hval ⟨_, hx2⟩
        have N5 := news_rot N4
        clear N4
        have hoff₂ : ∀ p ∈ (x.d, dictOf (upEs w.params τ' .none (-1) val) nx) :: off x.d rest₁, p.1 ≠ ou := fun p hp => let ⟨o, ho⟩ := c'.dom p hp; hoff (p.1, o) ho
        have hl₂ : ∀ p ∈ (x.d, dictOf (upEs w.params τ' .none (-1) val) nx) :: off x.d rest₁, p.1 ≠ l := fun p hp => let ⟨o, ho⟩ := c'.dom p hp; Nat.ne_of_lt (hal' (p.1, o) ho)
        generalize (x.d, dictOf (upEs w.params τ' .none (-1) val) nx) :: off x.d rest₁ = rest₂ at c' N5 hoff₂ hl₂
        k_steps
        refine go (WhileStep.intro (n' := r.length) (by assumption) (by assumption) (by simp) ⟨done ++ [x], r, rest₂, k + 1, j + 1, some (.ref x.u), by rw [hu]; simp, rfl, ?_, map_same, ?_, c'⟩)
        · simp [refs]
        · intro y hy
          rcases List.mem_append.mp hy with hy | hy
          · exact hdone y hy
          · rw [List.mem_singleton.mp hy]; exact hge
end
end
section
section
variable {prog : Program} {w : World} {A : Around} {E : Value → Shared → Prop} {s : Shared} {K : Frag} {x y C : Addr} {ox oy : Obj} {od od' : Option Obj}

theorem isIn_obj {M : Model} {h : Heap} (X : K.In h) (I : InstAt h x ox C od) (hm : mroIn K C (.type "object") = some true) : Looks M h (isInstance (.ref x) (.type "object")) true :=
  I.type.andThen (looks_mroIn X hm)
theorem instNoTup {h : Heap} (I : InstAt h x ox C od) : ox.cls ≠ .type "tuple" := by rw [I.cls]; intro e; cases e

theorem eq_call_same {Q : Value → Shared → Prop} (X : K.In s.heap) (I : InstAt s.heap x ox C od) (hm : mroIn K C (.type "object") = some true) (h : Q (.bool true) s) :
    wpAny (model prog w) A (call (.builtin "object.__eq__") [.ref x, .ref x]) Q E s :=
  wpAny_call (codeAny_call_builtin PySem.F.cmp_object.eq.plain PySem.F.cmpEntry_eq (check_slot PySem.F.cmpKind_eq PySem.F.cmpSplit_eq (isIn_obj X I hm) (PySem.F.cmpArgs_eq _ _) (objEq_entry_same h)))
theorem eq_call_other {Q : Value → Shared → Prop} (X : K.In s.heap) (I : InstAt s.heap x ox C od) (hm : mroIn K C (.type "object") = some true) (hy : s.heap.get? y = some oy) (hxy : x ≠ y) (h : Q .notImplemented s) :
    wpAny (model prog w) A (call (.builtin "object.__eq__") [.ref x, .ref y]) Q E s :=
  wpAny_call (codeAny_call_builtin PySem.F.cmp_object.eq.plain PySem.F.cmpEntry_eq (check_slot PySem.F.cmpKind_eq PySem.F.cmpSplit_eq (isIn_obj X I hm) (PySem.F.cmpArgs_eq _ _) (objEq_entry_other hxy I.at_ hy (instNoTup I) h)))
theorem special_call {name : Str} {id : String} {arg : Value} {Q : Option Value → Shared → Prop} (X : K.In s.heap) (I : InstAt s.heap x ox C od) (hs : findIn K (.ref C) name = some (some (.builtin id))) (S : Slot "object" name id)
    (h : wpAny (model prog w) A (call (.builtin id) [.ref x, arg]) (fun v => Q (some v)) E s) : wpAny (model prog w) A (callSpecialIfBound? (.ref x) name [arg]) Q E s := by
  simp only [callSpecialIfBound?, bindSpecialIfBound?]
  refine wpAny_holding (wpAny_bind (wpAny_bind (wpAny_bind (I.type.here ((looks_findIn X hs).here ?_)))))
  simp only [S.bind]
  refine wpAny_bind (wpAny_askSetting (wpAny_ite ?_))
  have fin : wpAny (model prog w) A (call (.builtin id) ([.ref x] ++ [arg]) >>= fun v => pure (some v)) Q E s := wpAny_bind (wpAny_mono h (fun v s' h' => wpAny_pure h') fun _ _ h' => h')
  split
  · exact wpAny_bind (wpAny_pure (wpAny_pure fin))
  · exact wpAny_tryCatch (wpAny_bind (wpAny_pure (wpAny_pure fin)))
theorem try_same {name : Str} {id : String} {b : Bool} {Q : Option Value → Shared → Prop} (X : K.In s.heap) (I : InstAt s.heap x ox C od) (hs : findIn K (.ref C) name = some (some (.builtin id))) (S : Slot "object" name id)
    (hc : ∀ Q : Value → Shared → Prop, Q (.bool b) s → wpAny (model prog w) A (call (.builtin id) [.ref x, .ref x]) Q E s) (h : Q (some (.bool b)) s) : wpAny (model prog w) A (tryCompare (.ref x) name (.ref x)) Q E s := by
  simp only [tryCompare]
  exact wpAny_bind (special_call X I hs S (hc _ (wpAny_pure h)))
theorem try_other {name : Str} {id : String} {Q : Option Value → Shared → Prop} (X : K.In s.heap) (I : InstAt s.heap x ox C od) (hs : findIn K (.ref C) name = some (some (.builtin id))) (S : Slot "object" name id)
    (hc : ∀ Q : Value → Shared → Prop, Q .notImplemented s → wpAny (model prog w) A (call (.builtin id) [.ref x, .ref y]) Q E s) (h : Q none s) : wpAny (model prog w) A (tryCompare (.ref x) name (.ref y)) Q E s := by
  simp only [tryCompare]
  exact wpAny_bind (special_call X I hs S (hc _ (wpAny_pure h)))
theorem ne_call_same {Q : Value → Shared → Prop} (X : K.In s.heap) (I : InstAt s.heap x ox C od) (hm : mroIn K C (.type "object") = some true) (hs : findIn K (.ref C) "__eq__" = some (some (.builtin "object.__eq__"))) (hu : A.units + 1 < cLine) (h : Q (.bool false) s) :
    wpAny (model prog w) A (call (.builtin "object.__ne__") [.ref x, .ref x]) Q E s := by
  refine wpAny_call (codeAny_call_builtin PySem.F.cmp_object.ne.plain PySem.F.cmpEntry_ne (check_slot PySem.F.cmpKind_ne PySem.F.cmpSplit_ne (isIn_obj X I hm) (PySem.F.cmpArgs_ne _ _) ?_))
  unfold Builtin.«object.__ne__»
  obtain ⟨hh, g, d, t, os⟩ := s
  repeat (first | with_reducible refine wpAny_cRoomFor hu ?_ | with_reducible refine special_call X I hs PySem.F.cmp_object.eq (eq_call_same X I hm ?_) | wp_step)
  exact h
theorem ne_call_other {Q : Value → Shared → Prop} (X : K.In s.heap) (I : InstAt s.heap x ox C od) (hm : mroIn K C (.type "object") = some true) (hs : findIn K (.ref C) "__eq__" = some (some (.builtin "object.__eq__"))) (hu : A.units + 1 < cLine) (hy : s.heap.get? y = some oy) (hxy : x ≠ y) (h : Q .notImplemented s) :
    wpAny (model prog w) A (call (.builtin "object.__ne__") [.ref x, .ref y]) Q E s := by
  refine wpAny_call (codeAny_call_builtin PySem.F.cmp_object.ne.plain PySem.F.cmpEntry_ne (check_slot PySem.F.cmpKind_ne PySem.F.cmpSplit_ne (isIn_obj X I hm) (PySem.F.cmpArgs_ne _ _) ?_))
  unfold Builtin.«object.__ne__»
  obtain ⟨hh, g, d, t, os⟩ := s
  repeat (first | with_reducible refine wpAny_cRoomFor hu ?_ | with_reducible refine special_call X I hs PySem.F.cmp_object.eq (eq_call_other X I hm hy hxy ?_) | wp_step)
  exact h

theorem same_eq {Q : Value → Shared → Prop} (X : K.In s.heap) (I : InstAt s.heap x ox C od) (hm : mroIn K C (.type "object") = some true) (hs : findIn K (.ref C) "__eq__" = some (some (.builtin "object.__eq__"))) (hu : A.units < cLine) (h : Q (.bool true) s) :
    wpAny (model prog w) A (compareOp .Eq (.ref x) (.ref x)) Q E s := by
  show wpAny (model prog w) A (richCompare .Eq (.ref x) (.ref x)) Q E s
  simp only [richCompare, PySem.cmpInfo_Eq, oneThing_ref]
  refine wpAny_holding (wpAny_bind (wpAny_cRoomFor hu ?_))
  refine wpAny_bind (I.type.here (wpAny_bind (I.type.here ?_)))
  simp only [bne_self_eq_false, Bool.false_eq_true, if_false]
  refine wpAny_bind (wpAny_pure ?_)
  simp only [Bool.false_eq_true, if_false]
  refine wpAny_bind (try_same X I hs PySem.F.cmp_object.eq (fun Q hq => eq_call_same X I hm hq) ?_)
  exact wpAny_pure h
theorem other_eq {Q : Value → Shared → Prop} (X : K.In s.heap) (I : InstAt s.heap x ox C od) (J : InstAt s.heap y oy C od') (hxy : x ≠ y) (hm : mroIn K C (.type "object") = some true) (hs : findIn K (.ref C) "__eq__" = some (some (.builtin "object.__eq__"))) (hu : A.units < cLine) (h : Q (.bool false) s) :
    wpAny (model prog w) A (compareOp .Eq (.ref x) (.ref y)) Q E s := by
  show wpAny (model prog w) A (richCompare .Eq (.ref x) (.ref y)) Q E s
  simp only [richCompare, PySem.cmpInfo_Eq, oneThing_ref]
  refine wpAny_holding (wpAny_bind (wpAny_cRoomFor hu ?_))
  refine wpAny_bind (I.type.here (wpAny_bind (J.type.here ?_)))
  simp only [bne_self_eq_false, Bool.false_eq_true, if_false]
  refine wpAny_bind (wpAny_pure ?_)
  simp only [Bool.false_eq_true, if_false]
  refine wpAny_bind (try_other X I hs PySem.F.cmp_object.eq (fun Q hq => eq_call_other X I hm J.at_ hxy hq) ?_)
  simp only [Bool.not_false, if_true]
  refine wpAny_bind (try_other X J hs PySem.F.cmp_object.eq (fun Q hq => eq_call_other X J hm I.at_ (Ne.symm hxy) hq) ?_)
  exact wpAny_bind (wpAny_rule (wpAny_bind (wpAny_isSame_ref_other hxy I.at_ J.at_ (instNoTup I) (wpAny_pure h))))
theorem same_ne {Q : Value → Shared → Prop} (X : K.In s.heap) (I : InstAt s.heap x ox C od) (hm : mroIn K C (.type "object") = some true) (hs : findIn K (.ref C) "__eq__" = some (some (.builtin "object.__eq__"))) (hs' : findIn K (.ref C) "__ne__" = some (some (.builtin "object.__ne__"))) (hu : A.units + 1 < cLine) (h : Q (.bool false) s) :
    wpAny (model prog w) A (compareOp .NotEq (.ref x) (.ref x)) Q E s := by
  show wpAny (model prog w) A (richCompare .NotEq (.ref x) (.ref x)) Q E s
  simp only [richCompare, PySem.cmpInfo_NotEq, oneThing_ref]
  refine wpAny_holding (wpAny_bind (wpAny_cRoomFor (Nat.lt_of_succ_lt hu) ?_))
  refine wpAny_bind (I.type.here (wpAny_bind (I.type.here ?_)))
  simp only [bne_self_eq_false, Bool.false_eq_true, if_false]
  refine wpAny_bind (wpAny_pure ?_)
  simp only [Bool.false_eq_true, if_false]
  refine wpAny_bind (try_same X I hs' PySem.F.cmp_object.ne (fun Q hq => ne_call_same X I hm hs hu hq) ?_)
  exact wpAny_pure h
end
end
section
theorem lay_MNum : True := by
  k_with_none
  k_with "exec While" => refine stop ?_
  k_with "Back" => refine stop ?_
  k_with "WhileStep" => refine stop ?_
  k_with "call builtin:len" => (k_here; (with_reducible show wpAny _ _ (call (Value.builtin "len") [Value.ref _]) _ _ _); k_dflt (refine' len_L (by k_asm) (by k_mem) (by first | exact List.length_map _ | exact rfl) (by omega) ?_); intro _ _)
  k_with "subscriptTail" => (k_here; (with_reducible show wpAny _ _ (subscriptTail _ _ (Value.ref _) (Value.int _ _)) _ _ _); k_dflt (refine' item_L (by k_asm) (by k_mem) (by first | exact at_refs (by assumption) | assumption | exact rfl) (by omega) ?_ (by with_unfolding_all rfl)))
  k_with "call builtin:list.insert" => (k_here; (with_reducible show wpAny _ _ (call (Value.builtin _) [Value.ref _, Value.int _ _, _]) _ _ _); k_dflt (refine' insert_L (by k_asm) (by k_asm) ?_ ?_ (by k_upd) ?_; (first | assumption | (simp only [List.length_map]; first | assumption | omega)); (simp only [List.length_map]; omega)); intro _ _ _; (try k_sweep))
  k_with "call builtin:list.pop" => (k_here; (with_reducible show wpAny _ _ (call (Value.builtin _) [Value.ref _, Value.int _ _]) _ _ _); k_dflt (refine' pop0_L (by k_asm) (by k_asm) ?_ (by k_upd) ?_; (simp only [List.length_map]; omega)); intro _ _ _; (try k_sweep))
  k_with "call builtin:list.append" => (k_here; (with_reducible show wpAny _ _ (call (Value.builtin _) [Value.ref _, _]) _ _ _); k_dflt (refine' append_L (by k_asm) (by k_asm) ?_ (by k_upd) ?_; (first | omega | (simp only [List.length_map]; omega) | (simp; omega))); intro _ _ _; (try k_sweep))
  k_with "setAttr ref" => (k_here; k_dflt (refine' set_dict (by k_asm) (by k_asm) (by k_asm) (by k_inst) (by exact rfl) (by k_is) (by k_is) (by k_is) (by k_is) (by k_get) (by first | exact put_value | exact put_thread | exact put_index) (by k_upd) (by exact Nat.le_of_ble_eq_true rfl) ?_; k_whole; intro _ _ _; (try k_sweep)))
  k_with "setItem ref int" => (k_here; (with_reducible show wpAny _ _ (setItem (Value.ref _) (Value.int _ _) _) _ _ _); k_dflt (refine' set_L (by k_asm) (by k_asm) (by k_upd) (by first | assumption | omega | (constructor <;> omega)) (by first | omega | (simp only [List.length_map]; omega)) ?_); intro _ _ _; (try k_sweep))
  k_with "exec For Name Attribute cons nil" => refine stop ?_
  k_with "exec For Name Name cons nil" => refine stop ?_
  k_with "TurnE" => refine stop ?_
  k_with "setItem ref str" => (k_here; k_dflt (refine' kda_set (knd := PySem.strKind _ _) (by k_asm) (by k_asm) (by k_updF) (by k_asm) (strKind_is _ _ _ _) (by kob_size) ?_); intro _ _ _ N9 _; (try kob_lit); (try dsimp only at N9))
  trivial
section
variable {w : World} {loose : List Str} {mean : ExcName → Option Value} {mg mb : Str → Option Value} {dp un : Nat} {gd : Option (List Code)} {cn : Str} {cs : Scope} {a : Addr} {ccd : Value} {cl : List (Str × Addr)} {outer : List Env} {A₀ : Around} {base h₀ : Heap} {L : Addr} {m : Str → Option Value} {s : Shared} {Q E : Value → Shared → Prop} {news : Led}
theorem num_spec {tp r : Addr} {o : Obj} {rest : Led} {vs : List Value} {ns : List Int} {n b : Int} {tn tb : Tok} {k : Nat}
    (B : Below A₀ base outer h₀) (F : Fr h₀ L s.heap m) (X : (Mine.Hd.top.heap_1 w.params).In h₀) (N : News h₀ L s.heap ((tp, o) :: (r, listOf vs.toArray k) :: rest)) (T : Top VW loose mean mg mb h₀) (hk : cs.kind = .function) (hd : dp ≤ 460) (hu : un ≤ 600)
    (off : ∀ p ∈ rest, p.1 ≠ tp) (hne : r ≠ tp) (ho : o.IsDictOf (strKind prog w) [(Str.ofString "row", .ref r), (Str.ofString "turn", .int n tn)])
    (hI : IntsAre vs ns) (hlen : ns.length ≤ 63) (hn : 0 ≤ n) (hn' : n ≤ 1000) (hb : 0 < b) (hb' : b ≤ 1000)
    (post : ∀ v tv o' tn' h' tk', 0 ≤ v → v < b → Fr h₀ L h' m → News h₀ L h' ((tp, o') :: (r, listOf vs.toArray k) :: rest) → o'.IsDictOf (strKind prog w) [(Str.ofString "row", .ref r), (Str.ofString "turn", .int (n + 1) tn')] → Q (.int v tv) { s with heap := h', toks := tk' }) :
    wpAny (model prog w) (ktrTop dp un gd cn cs L a ccd cl outer) (call (.ref 160) [.ref tp, .int b tb]) Q E s := by
  refine enter (f := 160) (binds := [(Str.ofString "tape", .ref tp), (Str.ofString "bound", .int b tb)]) B F X N T hk (by omega) (by k_is) (by k_is) (by rfl) (by exact locs rfl) (by rfl) (by rfl) (by rfl) (by decide) ?_
  clear F N
  intro g' L' h₁ tk F N B' X' T'
  k_steps
  all_goals exact go (back (by assumption) (by assumption) fun F9 N9 => post _ _ _ _ _ _ (Int.fmod_nonneg_of_pos _ hb) (Int.fmod_lt_of_pos _ hb) F9 N9 (by assumption))
end
end
section
section
variable {prog : Program} {w : World} {K : Type} [DecidableEq K] {knd : HeapKind prog w K} {A : Around} {E : Value → Shared → Prop} {s : Shared}

/-- a dictionary by its entries alone -/
def DEnt (h : Heap) (d : Addr) (es : Array DictEntry) (ep : Nat) : Prop := ∃ o, h.get? d = some o ∧ o.ExactDict ∧ o.data = .dict es ep
theorem DEnt.typeIs {d : Addr} {es : Array DictEntry} {ep : Nat} (x : DEnt s.heap d es ep) : s.TypeIs (.ref d) "dict" := let ⟨o, ho, hc, _⟩ := x; ⟨o, ho, hc.1⟩
theorem DEnt.at' {h h' : Heap} {d : Addr} {es : Array DictEntry} {ep : Nat} (x : DEnt h d es ep) (e : ∀ o, h.get? d = some o → h'.get? d = some o) : DEnt h' d es ep := let ⟨o, ho, r⟩ := x; ⟨o, e _ ho, r⟩
theorem DEnt.lt {h : Heap} {d : Addr} {es : Array DictEntry} {ep : Nat} (x : DEnt h d es ep) : d < h.objs.size := let ⟨_, ho, _⟩ := x; Heap.lt_size ho

theorem iter_D {d : Addr} {es : Array DictEntry} {ep : Nat} {Q : Value → Shared → Prop} (hd : (d == sysModules) = false) (hm : DEnt s.heap d es ep)
    (hQ : Q (.ref s.heap.objs.size) { s with heap := s.heap.push { cls := .type "dict_keyiterator", data := .fields #[.ref d, .int 0 0, .int es.size 0, .int ep 0] } }) :
    wpAny (model prog w) A (pyIter (.ref d)) Q E s := by
  obtain ⟨o, ho, hc, hdat⟩ := id hm
  have hT : s.TypeIs (.ref d) "dict" := hm.typeIs
  refine wpAny_pyIter_slot hT PySem.F.slot_dict_iter (wpAny_call_entry PySem.F.slot_dict_iter hT PySem.F.entry_dict_iter ?_ (PySem.F.args_dict_iter_1 _))
  unfold Builtin.«dict.__iter__»
  refine wpAny_bind ?_
  unfold Builtin.Dict.dictSlotNone
  refine wpAny_bind (wpAny_notOrdered_dict hT ?_)
  show wpAny _ _ (pure (Value.ref d)) _ _ s
  refine wpAny_pure ?_
  show wpAny _ _ (Builtin.Dict.showsAll d >>= _) _ _ s
  unfold Builtin.Dict.showsAll
  rw [if_neg (by rw [hd]; exact Bool.false_ne_true)]
  refine wpAny_bind (wpAny_pure ?_)
  refine wpAny_bind (wpAny_dictEntries ho hdat ?_)
  refine wpAny_bind (wpAny_dictEpoch ho hdat ?_)
  refine wpAny_bind (wpAny_newObj_type (wpAny_pure ⟨_, rfl, "dict_keyiterator", _, ⟨_, Heap.get?_push_size _ rfl, rfl⟩, PySem.F.slot_dict_keyiterator_next.lookup, ?_⟩))
  simpa [rawInt] using hQ

theorem next_D {it d : Addr} {i ep : Nat} {es : Array DictEntry} {e : DictEntry} {Q : Option Value → Shared → Prop} (hit : s.heap.IsKeyIter it d i es.size ep)
    (hm : DEnt s.heap d es ep) (hx : es[i]? = some e)
    (hQ : ∀ h', h'.IsKeyIter it d (i + 1) es.size ep → Heap.SameBut it s.heap h' → Q (some e.key) { s with heap := h' }) :
    wpAny (model prog w) A (pyNext (.ref it)) Q E s := by
  obtain ⟨o, ho, hc, hd⟩ := id hit
  obtain ⟨od, hod, hcd, hdd⟩ := id hm
  unfold pyNext
  refine wpAny_bind (wpAny_attempt (wpAny_callSpecial?_slot (name := Str.ofString "__next__") hit.typeIs PySem.F.slot_dict_keyiterator_next
    (wpAny_call_entry PySem.F.slot_dict_keyiterator_next hit.typeIs PySem.F.entry_dict_keyiterator_next ?_ (PySem.F.args_dict_keyiterator_next_1 _))))
  refine wpAny_bind (wpAny_pure ?_)
  refine wpAny_bind ?_
  refine wpAny_bind ?_
  first | refine wpAny_bind (wpAny_typeNameOfWhole_keyiter hit.typeIs (wpAny_pure ?_)) | refine wpAny_bind (wpAny_typeNameOf_keyiter hit.typeIs (wpAny_pure ?_))
  refine wpAny_bind (wpAny_fieldsOf ho hd ?_)
  have hown : Builtin.Dict_items.ownsTuple "dict_keyiterator" = false := by decide
  rw [hown, if_neg Bool.false_ne_true]
  show wpAny _ _ (if (Value.ref d == Value.none) = true then _ else _) _ _ s
  rw [if_neg (show ¬ ((Value.ref d == Value.none) = true) from Bool.false_ne_true)]
  refine wpAny_bind (wpAny_pure ?_)
  refine wpAny_bind (wpAny_dictEntries hod hdd ?_)
  rw [if_neg (by simp)]
  refine wpAny_bind (wpAny_pure ?_)
  refine wpAny_bind (wpAny_dictEpoch hod hdd ?_)
  rw [if_neg (by simp)]
  refine wpAny_pure ?_
  dsimp only
  rw [if_neg (show ¬ ((i : Int) < 0) from by omega), Int.toNat_natCast, hx]
  dsimp only
  refine wpAny_bind ?_
  first | refine wpAny_bind (wpAny_typeNameOfWhole_keyiter hit.typeIs (wpAny_pure ?_)) | refine wpAny_bind (wpAny_typeNameOf_keyiter hit.typeIs (wpAny_pure ?_))
  refine wpAny_bind (wpAny_isOneOf_keyiter hit.typeIs ?_)
  show wpAny _ _ (setField (.ref it) 1 (rawInt ((i : Int) + 1)) >>= _) _ _ s
  refine wpAny_bind (wpAny_setField ho hd (by simp) ?_)
  have hit' : (s.heap.update it (Obj.mapFields (·.setIfInBounds 1 (rawInt ((i : Int) + 1))))).IsKeyIter it d (i + 1) es.size ep :=
    ⟨_, Heap.get?_update_self _ ho (Obj.isFreed_of_fields (Obj.data_mapFields hd _)), (Obj.cls_mapFields ..).trans hc, by rw [Obj.data_mapFields hd]; simp [rawInt]⟩
  refine wpAny_bind (wpAny_holding ?_)
  refine wpAny_bind (wpAny_isOneOf_keyiter (s := { s with heap := s.heap.update it (Obj.mapFields (·.setIfInBounds 1 (rawInt ((i : Int) + 1)))) }) hit'.typeIs ?_)
  show wpAny _ _ (pure e.key) _ _ _
  exact wpAny_pure (wpAny_pure ⟨_, rfl, wpAny_pure (hQ _ hit' (Heap.SameBut.update ..))⟩)

theorem end_D {it d : Addr} {i ep : Nat} {es : Array DictEntry} {Q : Option Value → Shared → Prop} (hh : A.handled = none) (hit : s.heap.IsKeyIter it d i es.size ep)
    (hm : DEnt s.heap d es ep) (hx : es[i]? = none)
    (hQ : ∀ h', Heap.ExtBut it s.heap h' → Q none { s with heap := h' }) : wpAny (model prog w) A (pyNext (.ref it)) Q E s := by
  obtain ⟨o, ho, hc, hd⟩ := id hit
  obtain ⟨od, hod, hcd, hdd⟩ := id hm
  unfold pyNext
  refine wpAny_bind (wpAny_attempt (wpAny_callSpecial?_slot (name := Str.ofString "__next__") hit.typeIs PySem.F.slot_dict_keyiterator_next
    (wpAny_call_entry PySem.F.slot_dict_keyiterator_next hit.typeIs PySem.F.entry_dict_keyiterator_next ?_ (PySem.F.args_dict_keyiterator_next_1 _))))
  refine wpAny_bind (wpAny_pure ?_)
  refine wpAny_bind ?_
  refine wpAny_bind ?_
  first | refine wpAny_bind (wpAny_typeNameOfWhole_keyiter hit.typeIs (wpAny_pure ?_)) | refine wpAny_bind (wpAny_typeNameOf_keyiter hit.typeIs (wpAny_pure ?_))
  refine wpAny_bind (wpAny_fieldsOf ho hd ?_)
  have hown : Builtin.Dict_items.ownsTuple "dict_keyiterator" = false := by decide
  rw [hown, if_neg Bool.false_ne_true]
  show wpAny _ _ (if (Value.ref d == Value.none) = true then _ else _) _ _ s
  rw [if_neg (show ¬ ((Value.ref d == Value.none) = true) from Bool.false_ne_true)]
  refine wpAny_bind (wpAny_pure ?_)
  refine wpAny_bind (wpAny_dictEntries hod hdd ?_)
  rw [if_neg (by simp)]
  refine wpAny_bind (wpAny_pure ?_)
  refine wpAny_bind (wpAny_dictEpoch hod hdd ?_)
  rw [if_neg (by simp)]
  refine wpAny_pure ?_
  dsimp only
  rw [if_neg (show ¬ ((i : Int) < 0) from by omega), Int.toNat_natCast, hx]
  dsimp only
  refine wpAny_bind ?_
  first | refine wpAny_bind (wpAny_typeNameOfWhole_keyiter hit.typeIs (wpAny_pure ?_)) | refine wpAny_bind (wpAny_typeNameOf_keyiter hit.typeIs (wpAny_pure ?_))
  show wpAny _ _ (setField (.ref it) 0 .none >>= _) _ _ s
  refine wpAny_bind (wpAny_setField ho hd (by simp) ?_)
  show wpAny _ _ (newExc (.type "StopIteration") [] >>= _) _ _ _
  refine wpAny_bind ?_
  simp only [newExc, newTuple]
  refine wpAny_bind (wpAny_newObj_type ?_ (by size_fits))
  refine wpAny_bind (m := firstArgMember _ _) (wpAny_of_eq (a := Value.none) (by first | rfl | (simp only [firstArgMember]; rfl)) ?_)
  refine wpAny_newObj_type ?_ (by size_fits)
  simp only [raiseNew]
  refine wpAny_bind (wpAny_handled ?_)
  rw [show A.in1.handled = none from hh]
  refine wpAny_bind (wpAny_pure (wpAny_throw ?_))
  refine wpAny_bind (wpAny_isInstance (T := "StopIteration") (b := true) ⟨_, Heap.get?_push_size _ rfl, rfl⟩ isSubtype_stop ?_)
  exact wpAny_pure (hQ _ (((Heap.SameBut.update ..).extBut.push _).push _))

theorem walks_D (hh : A.handled = none) (I d : Addr) (hne : d ≠ I) (es : Array DictEntry) (ep : Nat) :
    Walks prog w A I [I, d] [I] es.size (fun i v => ∃ e, es[i]? = some e ∧ e.key = v) (fun i h => h.IsKeyIter I d i es.size ep ∧ DEnt h d es ep) where
  sub := fun b hb => by simp at hb; simp [hb]
  frame := fun _ _ _ st hk => ⟨st.1.at fun o e => hk I (by simp) o e, st.2.at' fun o e => hk d (by simp) o e⟩
  item := fun i s Q E hi st hQ => by
    refine next_D st.1 st.2 (e := es[i]) (by simp [hi]) fun h' hit' hs' => ?_
    exact hQ _ h' s.toks ⟨es[i], by simp [hi], rfl⟩ ⟨hit', st.2.at' fun o e => hs'.extBut d o hne e⟩ fun b o hb e => hs'.extBut b o (fun h => hb (by simp [h])) e
  done := fun s Q E st hQ => end_D hh st.1 st.2 (by simp) fun h' he' => hQ h' s.toks fun b o hb e => he' b o (fun h => hb (by simp [h])) e
  self := fun _ _ _ _ st hQ => wpAny_pyIter_keyiter st.1 hQ

theorem views_D {d : Addr} (hd : (d == sysModules) = false) :
    MeetsIn prog w (Builtin.«dict.values» ⟨[.ref d], []⟩) (fun _ R s => (∃ es ep, DEnt s.heap d es ep) ∧
      R (.ok (.ret (.ref s.heap.objs.size))) { s with heap := s.heap.push { cls := .type "dict_values", data := .fields #[.ref d] } }) :=
  .of_wp fun A R s ⟨⟨es, ep, hm⟩, h⟩ => by
    refine wpAny_bind ?_
    unfold Builtin.Dict.noArgs
    refine wpAny_bind (wpAny_notOrdered_dict hm.typeIs ?_)
    show wpAny _ _ (pure d) _ _ s
    refine wpAny_pure ?_
    show wpAny _ _ (Builtin.Dict.showsAll d >>= _) _ _ s
    unfold Builtin.Dict.showsAll
    rw [if_neg (by rw [hd]; exact Bool.false_ne_true)]
    refine wpAny_bind (wpAny_pure ?_)
    exact wpAny_bind (wpAny_newObj_type (wpAny_pure ⟨_, rfl, h⟩))

theorem viter_D {v d : Addr} {es : Array DictEntry} {ep : Nat} {Q : Value → Shared → Prop} (hv : s.heap.IsValuesView v d) (hm : DEnt s.heap d es ep)
    (hQ : Q (.ref s.heap.objs.size) { s with heap := s.heap.push { cls := .type "dict_valueiterator", data := .fields #[.ref d, .int 0 0, .int es.size 0, .int ep 0] } }) :
    wpAny (model prog w) A (pyIter (.ref v)) Q E s := by
  obtain ⟨ov, hov, hcv, hdv⟩ := id hv
  obtain ⟨o, ho, hc, hdat⟩ := id hm
  refine wpAny_pyIter_slot hv.typeIs PySem.F.slot_dict_values_iter (wpAny_call_entry PySem.F.slot_dict_values_iter hv.typeIs PySem.F.entry_dict_values_iter ?_ (PySem.F.args_dict_values_iter_1 _))
  unfold Builtin.«dict_values.__iter__»
  refine wpAny_bind (wpAny_pure ?_)
  refine wpAny_bind ?_
  unfold Builtin.Dict_items.dictOf
  refine wpAny_bind (wpAny_field hov hdv (x := .ref d) rfl (wpAny_pure ?_))
  refine wpAny_bind ?_
  unfold Builtin.Dict_items.newIterator
  refine wpAny_bind (wpAny_dictEntries ho hdat ?_)
  refine wpAny_bind (wpAny_dictEpoch ho hdat ?_)
  have hown : Builtin.Dict_items.ownsTuple "dict_valueiterator" = false := by decide
  simp only [hown, Bool.false_eq_true, if_false]
  refine wpAny_newObj_type (wpAny_pure ⟨_, rfl, "dict_valueiterator", _, ⟨_, Heap.get?_push_size _ rfl, rfl⟩, PySem.F.slot_dict_valueiterator_next.lookup, ?_⟩)
  simpa [rawInt] using hQ

theorem vnext_D {it d : Addr} {i ep : Nat} {es : Array DictEntry} {e : DictEntry} {Q : Option Value → Shared → Prop} (hit : s.heap.IsValIter it d i es.size ep)
    (hm : DEnt s.heap d es ep) (hx : es[i]? = some e)
    (hQ : ∀ h', h'.IsValIter it d (i + 1) es.size ep → Heap.SameBut it s.heap h' → Q (some e.val) { s with heap := h' }) :
    wpAny (model prog w) A (pyNext (.ref it)) Q E s := by
  obtain ⟨o, ho, hc, hd⟩ := id hit
  obtain ⟨od, hod, hcd, hdd⟩ := id hm
  unfold pyNext
  refine wpAny_bind (wpAny_attempt (wpAny_callSpecial?_slot (name := Str.ofString "__next__") hit.typeIs PySem.F.slot_dict_valueiterator_next
    (wpAny_call_entry PySem.F.slot_dict_valueiterator_next hit.typeIs PySem.F.entry_dict_valueiterator_next ?_ (PySem.F.args_dict_valueiterator_next_1 _))))
  refine wpAny_bind (wpAny_pure ?_)
  refine wpAny_bind ?_
  refine wpAny_bind ?_
  first | refine wpAny_bind (wpAny_typeNameOfWhole_valiter hit.typeIs (wpAny_pure ?_)) | refine wpAny_bind (wpAny_typeNameOf_valiter hit.typeIs (wpAny_pure ?_))
  refine wpAny_bind (wpAny_fieldsOf ho hd ?_)
  have hown : Builtin.Dict_items.ownsTuple "dict_valueiterator" = false := by decide
  rw [hown, if_neg Bool.false_ne_true]
  show wpAny _ _ (if (Value.ref d == Value.none) = true then _ else _) _ _ s
  rw [if_neg (show ¬ ((Value.ref d == Value.none) = true) from Bool.false_ne_true)]
  refine wpAny_bind (wpAny_pure ?_)
  refine wpAny_bind (wpAny_dictEntries hod hdd ?_)
  rw [if_neg (by simp)]
  refine wpAny_bind (wpAny_pure ?_)
  refine wpAny_bind (wpAny_dictEpoch hod hdd ?_)
  rw [if_neg (by simp)]
  refine wpAny_pure ?_
  dsimp only
  rw [if_neg (show ¬ ((i : Int) < 0) from by omega), Int.toNat_natCast, hx]
  dsimp only
  refine wpAny_bind ?_
  first | refine wpAny_bind (wpAny_typeNameOfWhole_valiter hit.typeIs (wpAny_pure ?_)) | refine wpAny_bind (wpAny_typeNameOf_valiter hit.typeIs (wpAny_pure ?_))
  refine wpAny_bind (wpAny_isOneOf_valiter hit.typeIs ?_)
  show wpAny _ _ (setField (.ref it) 1 (rawInt ((i : Int) + 1)) >>= _) _ _ s
  refine wpAny_bind (wpAny_setField ho hd (by simp) ?_)
  have hit' : (s.heap.update it (Obj.mapFields (·.setIfInBounds 1 (rawInt ((i : Int) + 1))))).IsValIter it d (i + 1) es.size ep :=
    ⟨_, Heap.get?_update_self _ ho (Obj.isFreed_of_fields (Obj.data_mapFields hd _)), (Obj.cls_mapFields ..).trans hc, by rw [Obj.data_mapFields hd]; simp [rawInt]⟩
  refine wpAny_bind (wpAny_holding ?_)
  refine wpAny_bind (wpAny_isOneOf_valiter (s := { s with heap := s.heap.update it (Obj.mapFields (·.setIfInBounds 1 (rawInt ((i : Int) + 1)))) }) hit'.typeIs ?_)
  refine wpAny_bind (wpAny_isOneOf_valiter (s := { s with heap := s.heap.update it (Obj.mapFields (·.setIfInBounds 1 (rawInt ((i : Int) + 1)))) }) hit'.typeIs ?_)
  show wpAny _ _ (pure e.val) _ _ _
  exact wpAny_pure (wpAny_pure ⟨_, rfl, wpAny_pure (hQ _ hit' (Heap.SameBut.update ..))⟩)

theorem vend_D {it d : Addr} {i ep : Nat} {es : Array DictEntry} {Q : Option Value → Shared → Prop} (hh : A.handled = none) (hit : s.heap.IsValIter it d i es.size ep)
    (hm : DEnt s.heap d es ep) (hx : es[i]? = none)
    (hQ : ∀ h', Heap.ExtBut it s.heap h' → Q none { s with heap := h' }) : wpAny (model prog w) A (pyNext (.ref it)) Q E s := by
  obtain ⟨o, ho, hc, hd⟩ := id hit
  obtain ⟨od, hod, hcd, hdd⟩ := id hm
  unfold pyNext
  refine wpAny_bind (wpAny_attempt (wpAny_callSpecial?_slot (name := Str.ofString "__next__") hit.typeIs PySem.F.slot_dict_valueiterator_next
    (wpAny_call_entry PySem.F.slot_dict_valueiterator_next hit.typeIs PySem.F.entry_dict_valueiterator_next ?_ (PySem.F.args_dict_valueiterator_next_1 _))))
  refine wpAny_bind (wpAny_pure ?_)
  refine wpAny_bind ?_
  refine wpAny_bind ?_
  first | refine wpAny_bind (wpAny_typeNameOfWhole_valiter hit.typeIs (wpAny_pure ?_)) | refine wpAny_bind (wpAny_typeNameOf_valiter hit.typeIs (wpAny_pure ?_))
  refine wpAny_bind (wpAny_fieldsOf ho hd ?_)
  have hown : Builtin.Dict_items.ownsTuple "dict_valueiterator" = false := by decide
  rw [hown, if_neg Bool.false_ne_true]
  show wpAny _ _ (if (Value.ref d == Value.none) = true then _ else _) _ _ s
  rw [if_neg (show ¬ ((Value.ref d == Value.none) = true) from Bool.false_ne_true)]
  refine wpAny_bind (wpAny_pure ?_)
  refine wpAny_bind (wpAny_dictEntries hod hdd ?_)
  rw [if_neg (by simp)]
  refine wpAny_bind (wpAny_pure ?_)
  refine wpAny_bind (wpAny_dictEpoch hod hdd ?_)
  rw [if_neg (by simp)]
  refine wpAny_pure ?_
  dsimp only
  rw [if_neg (show ¬ ((i : Int) < 0) from by omega), Int.toNat_natCast, hx]
  dsimp only
  refine wpAny_bind ?_
  first | refine wpAny_bind (wpAny_typeNameOfWhole_valiter hit.typeIs (wpAny_pure ?_)) | refine wpAny_bind (wpAny_typeNameOf_valiter hit.typeIs (wpAny_pure ?_))
  show wpAny _ _ (setField (.ref it) 0 .none >>= _) _ _ s
  refine wpAny_bind (wpAny_setField ho hd (by simp) ?_)
  show wpAny _ _ (newExc (.type "StopIteration") [] >>= _) _ _ _
  refine wpAny_bind ?_
  simp only [newExc, newTuple]
  refine wpAny_bind (wpAny_newObj_type ?_ (by size_fits))
  refine wpAny_bind (m := firstArgMember _ _) (wpAny_of_eq (a := Value.none) (by first | rfl | (simp only [firstArgMember]; rfl)) ?_)
  refine wpAny_newObj_type ?_ (by size_fits)
  simp only [raiseNew]
  refine wpAny_bind (wpAny_handled ?_)
  rw [show A.in1.handled = none from hh]
  refine wpAny_bind (wpAny_pure (wpAny_throw ?_))
  refine wpAny_bind (wpAny_isInstance (T := "StopIteration") (b := true) ⟨_, Heap.get?_push_size _ rfl, rfl⟩ isSubtype_stop ?_)
  exact wpAny_pure (hQ _ (((Heap.SameBut.update ..).extBut.push _).push _))

theorem vwalks_D (hh : A.handled = none) (I d : Addr) (hne : d ≠ I) (es : Array DictEntry) (ep : Nat) :
    Walks prog w A I [I, d] [I] es.size (fun i v => ∃ e, es[i]? = some e ∧ e.val = v) (fun i h => h.IsValIter I d i es.size ep ∧ DEnt h d es ep) where
  sub := fun b hb => by simp at hb; simp [hb]
  frame := fun _ _ _ st hk => ⟨st.1.at fun o e => hk I (by simp) o e, st.2.at' fun o e => hk d (by simp) o e⟩
  item := fun i s Q E hi st hQ => by
    refine vnext_D st.1 st.2 (e := es[i]) (by simp [hi]) fun h' hit' hs' => ?_
    exact hQ _ h' s.toks ⟨es[i], by simp [hi], rfl⟩ ⟨hit', st.2.at' fun o e => hs'.extBut d o hne e⟩ fun b o hb e => hs'.extBut b o (fun h => hb (by simp [h])) e
  done := fun s Q E st hQ => vend_D hh st.1 st.2 (by simp) fun h' he' => hQ h' s.toks fun b o hb e => he' b o (fun h => hb (by simp [h])) e
  self := fun _ _ _ _ st hQ => wpAny_pyIter_valiter st.1 hQ

theorem list_D {d : Addr} {es : Array DictEntry} {ep : Nat} (lo : (d == sysModules) = false) : KdlSrc prog w "dict" d d es.size (fun i v => ∃ e, es[i]? = some e ∧ e.key = v) (fun h => DEnt h d es ep) where
  type := fun _ hm => hm.typeIs
  there := fun _ hm => ⟨hm.lt, hm.lt⟩
  keep := fun _ _ hm hk => hm.at' fun o e => hk d (.inl rfl) o e
  notList := by decide
  notTuple := by decide
  hint := fun _ _ _ _ hm hq => kdl_hint_dict hm.typeIs hq
  iter := fun _ _ hh hm => ⟨_, _, (fun _ _ hq => iter_D lo hm hq), walks_D hh _ d (Nat.ne_of_lt hm.lt) es ep, ⟨⟨_, Heap.get?_push_size _ rfl, rfl, rfl⟩, hm.at' fun _ e => Heap.get?_push_of_some _ e⟩⟩

theorem setdef_H {d a : Addr} {xs : List (K × Addr × Value)} {k : K} {v : Value} {Q : Value → Shared → Prop} (hu : knd.room A) (hkey : knd.is s.heap k a) (hm : s.heap.DictOfH knd d xs)
    (h1 : ∀ p, atKey xs k = some p → Q p.2 { s with toks := s.toks + knd.draws k })
    (h2 : atKey xs k = none → ∀ h', h'.DictOfH knd d (xs ++ [(k, a, v)]) → Heap.SameBut d s.heap h' → Q v { s with heap := h', toks := s.toks + knd.draws k })
    (hsz : xs.length ≤ sizeLine) :
    wpAny (model prog w) A (dictSetDefault d (.ref a) v) Q E s := by
  obtain ⟨o, es, ep, ho, hc, hd, he, his, hn⟩ := hm
  unfold dictSetDefault
  try with_reducible refine wpAny_holding ?_
  refine wpAny_bind (knd.pyHash hu hkey ?_)
  refine wpAny_bind (wpAny_dictFind_heap (s := { s with toks := s.toks + knd.draws k }) hu hkey ho hd he his hn ?_ ?_)
  · intro hno
    have hnot : k ∉ xs.map (·.1) := not_mem_keys_of_get hno
    have e0 := storedH_new (atKey_none_of_get hno) a v
    refine wpAny_bind (wpAny_rule (wpAny_bind (wpAny_updateDictKeys (hz := by have e := size_of_entries he; omega) (s := { s with toks := s.toks + knd.draws k }) ho hd (wpAny_pure (h2 (atKey_none_of_get hno) _ ⟨_, _, ep + 1, Heap.get?_update_self _ ho (Obj.isFreed_of_dict (Obj.data_mapDictKeys hd _)),
      hc.mapDictKeys _, Obj.data_mapDictKeys hd _, ?_, ?_, ?_⟩ (Heap.SameBut.update ..))))))
    · simp [he, entryOfKey]
    · intro x hx
      rcases List.mem_append.mp hx with hx | hx
      · exact knd.keeps (his x hx) ho hd (Heap.SameBut.update ..)
      · simp only [List.mem_singleton] at hx
        subst hx
        exact knd.keeps hkey ho hd (Heap.SameBut.update ..)
    · rw [List.map_append, List.nodup_append]
      refine ⟨hn, by simp, ?_⟩
      intro x hx y hy
      simp only [List.map_cons, List.map_nil, List.mem_singleton] at hy
      subst hy
      exact fun e => hnot (e ▸ hx)
  · intro j p hj
    refine wpAny_bind (wpAny_dictEntries (s := { s with toks := s.toks + knd.draws k }) ho hd ?_)
    rw [entry_at he j, hj]
    exact wpAny_bind (wpAny_rule (wpAny_pure (h1 p (atKey_of_get hn hj))))

theorem meetsSetdef_H (knd : HeapKind prog w K) {d a : Addr} (hd : (d == sysModules) = false) (dflt : Value) :
    MeetsIn prog w (Builtin.«dict.setdefault» ⟨[.ref d, .ref a, dflt], []⟩) (fun A R s => knd.room A.in1 ∧ ∃ k xs, knd.is s.heap k a ∧ s.heap.DictOfH knd d xs ∧ xs.length ≤ sizeLine ∧
      (∀ p, atKey xs k = some p → R (.ok (.ret p.2)) { s with toks := s.toks + knd.draws k }) ∧
      (atKey xs k = none → ∀ h', h'.DictOfH knd d (xs ++ [(k, a, dflt)]) → Heap.SameBut d s.heap h' → R (.ok (.ret dflt)) { s with heap := h', toks := s.toks + knd.draws k })) :=
  .of_wp fun A R s ⟨hu, k, xs, hkey, hm, hz, h1, h2⟩ => by
    unfold Builtin.«dict.setdefault»
    refine wpAny_bind ?_
    unfold Builtin.Dict.keyAndDefault
    refine wpAny_bind (wpAny_notOrdered_dict hm.typeIs ?_)
    show wpAny _ _ (pure (d, Value.ref a, some dflt)) _ _ s
    refine wpAny_pure ?_
    show wpAny _ _ (if (d == sysModules) = true then _ else (dictSetDefault d (.ref a) dflt >>= _)) _ _ s
    rw [if_neg (by rw [hd]; exact Bool.false_ne_true)]
    exact wpAny_bind (setdef_H (hsz := hz) hu hkey hm (fun p hv => wpAny_pure ⟨p.2, rfl, h1 p hv⟩) fun hn h' hm' hs' => wpAny_pure ⟨dflt, rfl, h2 hn h' hm' hs'⟩)
end
end
section
abbrev TK (prog : Program) (w : World) : HeapKind prog w (List Int) := tupleKind (intKind prog w)
abbrev TL := List (List Int × Addr × Value)
/-- a table whose keys are tuples of ints -/
def IsTab (prog : Program) (w : World) (o : Obj) (xs : TL) : Prop := ∃ es ep, o.ExactDict ∧ o.data = .dict es ep ∧ es.toList = xs.map (entryOfKey (TK prog w)) ∧ (xs.map (·.1)).Nodup
def KeyIn (prog : Program) (w : World) (N : Led) (k : List Int) (a : Addr) : Prop := ∃ ok, (a, ok) ∈ N ∧ TupKeyObj (intKind prog w) k ok
def KeysIn (prog : Program) (w : World) (N : Led) (xs : TL) : Prop := ∀ x ∈ xs, KeyIn prog w N x.1 x.2.1
structure TabAt (prog : Program) (w : World) (N : Led) (d : Addr) (o : Obj) (xs : TL) : Prop where
  lo : (d == sysModules) = false
  mem : (d, o) ∈ N
  tab : IsTab prog w o xs
  keys : KeysIn prog w N xs

section
variable {prog : Program} {w : World} {A : Around} {E : Value → Shared → Prop} {s : Shared} {h₀ : Heap} {L d a ka : Addr} {m : Str → Option Value} {news news' rest : Led} {o : Obj} {xs : TL} {ks : List Int}
theorem KeyIn.mono (h : KeyIn prog w news ks a) (hs : ∀ o, (a, o) ∈ news → (a, o) ∈ news') : KeyIn prog w news' ks a := let ⟨ok, x, y⟩ := h; ⟨ok, hs _ x, y⟩
theorem KeyIn.key (h : KeyIn prog w news ks a) (N : News h₀ L s.heap news) : IsTupleKey (intKind prog w) s.heap ks a := let ⟨_, x, y⟩ := h; y.key (N.get x)
theorem IsTab.ofEmpty {K' : Type} [DecidableEq K'] {knd' : KeyKind prog w K'} (hd : o.IsDictOf knd' []) : IsTab prog w o [] := by
  obtain ⟨es, ep, hc, hdat, _, hp, _⟩ := hd
  have he : es.toList = [] := List.length_eq_zero_iff.mp hp.length
  exact ⟨es, ep, hc, hdat, he, List.nodup_nil⟩
theorem TabAt.dict (T : TabAt prog w news d o xs) (N : News h₀ L s.heap news) : s.heap.DictOfH (TK prog w) d xs :=
  let ⟨es, ep, hc, hd, he, hn⟩ := T.tab
  ⟨o, es, ep, N.get T.mem, hc, hd, he, fun x hx => (T.keys x hx).key N, hn⟩
theorem TabAt.mono (T : TabAt prog w news d o xs) (h : (d, o) ∈ news') (hk : KeysIn prog w news' xs) : TabAt prog w news' d o xs := ⟨T.lo, h, T.tab, hk⟩
theorem IsTab.entries (T : IsTab prog w o xs) : ∃ es ep, o.ExactDict ∧ o.data = .dict es ep ∧ es.size = xs.length ∧ ∀ i : Nat, es[i]? = (xs[i]?).map (entryOfKey (TK prog w)) :=
  let ⟨es, ep, hc, hd, he, _⟩ := T
  ⟨es, ep, hc, hd, size_of_entries he, entry_at he⟩
theorem IsTab.nodup (T : IsTab prog w o xs) : (xs.map (·.1)).Nodup := let ⟨_, _, _, _, _, hn⟩ := T; hn
theorem tup_not_dict {ok : Obj} (t : TupKeyObj (intKind prog w) ks ok) (T : IsTab prog w o xs) (e : ok = o) : False := by
  subst e
  obtain ⟨es, ep, hc, _⟩ := T
  have h1 := t.1
  rw [hc.1] at h1
  injection h1 with h2
  exact absurd h2 (by decide)
theorem KeyIn.ne (h : KeyIn prog w news ks a) (T : IsTab prog w o xs) (hm : (d, o) ∈ news) (N : News h₀ L s.heap news) : a ≠ d := by
  rintro rfl
  obtain ⟨ok, h1, h2⟩ := h
  exact tup_not_dict h2 T (news_one N h1 hm)

theorem in_T {Q : Value → Shared → Prop} {b : Bool} (hu : A.units + 1 < cLine) (N : News h₀ L s.heap news) (T : TabAt prog w news d o xs) (hk : KeyIn prog w news ks a) (hb : (atKey xs ks).isSome = b) (h : ∀ tk, Q (.bool b) { s with toks := tk }) :
    wpAny (model prog w) A (compareOp .In (.ref a) (.ref d)) Q E s := wpAny_in_heap (tupleKind_room_in1 hu) (hk.key N) T.lo (T.dict N) (hb ▸ h _)
theorem item_T {value slice : PySem.Expr} {Q : Value → Shared → Prop} {p : Addr × Value} (hu : A.units + 1 < cLine) (N : News h₀ L s.heap news) (T : TabAt prog w news d o xs) (hk : KeyIn prog w news ks a) (hp : atKey xs ks = some p) (h : ∀ tk, Q p.2 { s with toks := tk })
    (hs : subscripted slice false (.ref d) (.ref a) = operate [.ref d, .ref a] (getItem (.ref d) (.ref a)) := by with_unfolding_all rfl) (hg : ∀ r, letTemporaryGo value (.ref d) r = pure () := by intro _; with_unfolding_all rfl) :
    wpAny (model prog w) A (subscriptTail value slice (.ref d) (.ref a)) Q E s :=
  subscriptTail_builtin (T.dict N).typeIs slot_dict_getitem.lookup (wpAny_getItem_heap (tupleKind_room_in1 hu) (hk.key N) (T.dict N) hp (h _)) hs hg
theorem set_T {v : Value} {Q : Unit → Shared → Prop} (hu : A.units + 1 < cLine) (F : Fr h₀ L s.heap m) (N : News h₀ L s.heap ((d, o) :: rest)) (off : ∀ p ∈ rest, p.1 ≠ d) (T : TabAt prog w ((d, o) :: rest) d o xs) (hk : KeyIn prog w ((d, o) :: rest) ks a) (hz : xs.length ≤ 1000000)
    (h : ∀ h' o' tk, Fr h₀ L h' m → News h₀ L h' ((d, o') :: rest) → IsTab prog w o' (storedH xs ks a v) → Q () { s with heap := h', toks := tk }) :
    wpAny (model prog w) A (setItem (.ref d) (.ref a) v) Q E s := by
  refine wpAny_setItem_heap (knd := TK prog w) (hsz := by rw [sizeLine_eq]; omega) (tupleKind_room_in1 hu) (hk.key N) (T.dict N) fun h' hm' hs => ?_
  obtain ⟨o', es', ep', ho', hc', hd', he', _, hn'⟩ := hm'
  have hm := N _ (.head _)
  exact h h' o' _ (F.change hs hm.2.1 hm.2.2) (N.setIn (own := []) (fun _ h => nomatch h) off hs ho') ⟨es', ep', hc', hd', he', hn'⟩
theorem setdef_T {v : Value} {Q : Value → Shared → Prop} (hu : A.units + 1 < cLine) (F : Fr h₀ L s.heap m) (N : News h₀ L s.heap ((d, o) :: rest)) (off : ∀ p ∈ rest, p.1 ≠ d) (T : TabAt prog w ((d, o) :: rest) d o xs) (hk : KeyIn prog w ((d, o) :: rest) ks a) (hz : xs.length ≤ 1000000)
    (h1 : ∀ p tk, atKey xs ks = some p → Q p.2 { s with toks := tk })
    (h2 : ∀ h' o' tk, atKey xs ks = none → Fr h₀ L h' m → News h₀ L h' ((d, o') :: rest) → IsTab prog w o' (xs ++ [(ks, a, v)]) → Q v { s with heap := h', toks := tk })
    (hargs : argsOk "dict.setdefault" ⟨[.ref d, .ref a, v], []⟩) :
    wpAny (model prog w) A (call (.builtin "dict.setdefault") [.ref d, .ref a, v]) Q E s := by
  have hm := N _ (.head _)
  refine call_meetsIn PySem.F.slot_dict_setdefault (T.dict N).typeIs PySem.F.entry_dict_setdefault hargs (meetsSetdef_H (TK prog w) T.lo v) ⟨tupleKind_room_in1 hu, ks, xs, hk.key N, T.dict N, by rw [sizeLine_eq]; omega, fun p hp => h1 p _ hp, fun hn h' hm' hs => ?_⟩
  obtain ⟨o', es', ep', ho', hc', hd', he', _, hn'⟩ := hm'
  exact h2 h' o' _ hn (F.change hs hm.2.1 hm.2.2) (N.setIn (own := []) (fun _ h => nomatch h) off hs ho') ⟨es', ep', hc', hd', he', hn'⟩
theorem len_T {Q : Value → Shared → Prop} (N : News h₀ L s.heap news) (T : TabAt prog w news d o xs) (hz : xs.length ≤ 1000000)
    (h : ∀ tk tk', Q (.int (xs.length : Int) tk) { s with toks := tk' }) : wpAny (model prog w) A (call (.builtin "len") [.ref d]) Q E s := by
  refine Calls.call_function_entry kind_len plain_len entry_len (args_len1 _) ?_
  have hT := (T.dict N).typeIs
  obtain ⟨es, ep, hc, hd, he, hn⟩ := T.tab
  have ho := N.get T.mem
  unfold Builtin.«len»
  refine wpAny_bind (m := oneArg "len" _) (wpAny_pure ?_)
  have g : MeetsIn prog w (Builtin.«dict.__len__» ⟨[.ref d], []⟩) (fun _ R s' => s'.heap = s.heap ∧ R (.ok (.ret (.int xs.length s'.toks))) { s' with toks := s'.toks + 1 }) :=
    .of_wp fun A R s' ⟨hh, h⟩ => by
      show wpAny _ _ (dictSize d >>= _) _ _ s'
      unfold dictSize
      refine wpAny_bind (wpAny_bind (wpAny_dictEntries (by rw [hh]; exact ho) hd (wpAny_pure ?_)))
      show wpAny _ _ (Builtin.Dict.pendingCount d >>= _) _ _ s'
      refine wpAny_bind (wpAny_pendingCount_other T.lo ?_)
      refine wpAny_ret_mkInt ?_
      rw [Nat.add_zero, size_of_entries he]; exact h
  refine wpAny_bind (m := callSpecial? (.ref d) (Str.ofString "__len__")) (wpAny_callSpecial?_slot (name := Str.ofString "__len__") hT PySem.F.slot_dict_len
    (call_meetsIn PySem.F.slot_dict_len hT PySem.F.entry_dict_len (PySem.F.args_dict_len_1 _) g ⟨rfl, ?_⟩))
  show wpAny _ _ _ _ _ { s with toks := s.toks + 1 }
  refine wpAny_bind (wpAny_holding (wpAny_pure ?_))
  refine wpAny_bind (wpAny_letGo ?_)
  show wpAny _ _ (if ((xs.length : Nat) : Int) < 0 then _ else _) _ _ _
  rw [if_neg (by omega)]
  show wpAny _ _ (if ((xs.length : Nat) : Int) ≥ 2 ^ 63 then _ else _) _ _ _
  rw [if_neg (by omega)]
  exact wpAny_bind (wpAny_mkInt (wpAny_pure ⟨_, rfl, h _ _⟩))
theorem values_T {Q : Value → Shared → Prop} (F : Fr h₀ L s.heap m) (N : News h₀ L s.heap news) (T : TabAt prog w news d o xs)
    (h : ∀ (D : Addr) h', Fr h₀ L h' m → News h₀ L h' ((D, { cls := .type "dict_values", data := .fields #[.ref d] }) :: news) → (∀ q ∈ news, q.1 < D) → Q (.ref D) { s with heap := h' }) :
    wpAny (model prog w) A (call (.builtin "dict.values") [.ref d]) Q E s :=
  have hT := (T.dict N).typeIs
  let ⟨es, ep, hc, hd, _⟩ := T.tab
  call_meetsIn PySem.F.slot_dict_values hT PySem.F.entry_dict_values (PySem.F.args_dict_values_1 _) (views_D T.lo) ⟨⟨es, ep, o, N.get T.mem, hc, hd⟩, h _ _ (F.push _) (News.push F N _) fun q hq => Heap.lt_size (N q hq).1⟩
/-- list(d) -/
theorem list_T {Q : Value → Shared → Prop} (hh : A.handled = none) (F : Fr h₀ L s.heap m) (N : News h₀ L s.heap news) (T : TabAt prog w news d o xs) (hz : xs.length ≤ 1000000)
    (h : ∀ (D : Addr) c h' tk, Fr h₀ L h' m → News h₀ L h' ((D, listOf (xs.map fun x => Value.ref x.2.1).toArray c) :: news) → (∀ q ∈ news, q.1 < D) → Q (.ref D) { s with heap := h', toks := tk }) :
    wpAny (model prog w) A (call (.type "list") [.ref d]) Q E s := by
  obtain ⟨es, ep, hc, hd, hz', he⟩ := T.tab.entries
  refine kdl_N (list_D (es := es) (ep := ep) T.lo) hh F N ⟨o, N.get T.mem, hc, hd⟩ (by rw [sizeLine_eq]; omega) fun D c h' tk vs F' N' l1 hl hv => ?_
  have : vs = xs.map fun x => Value.ref x.2.1 := by
    refine List.ext_getElem? fun i => ?_
    rcases Nat.lt_or_ge i vs.length with hi | hi
    · obtain ⟨e, h1, h2⟩ := hv i vs[i] (by simp [hi])
      rw [he i] at h1
      obtain ⟨x, hx, rfl⟩ := Option.map_eq_some_iff.mp h1
      rw [List.getElem?_map, hx, List.getElem?_eq_getElem hi, ← h2]
      rfl
    · rw [List.getElem?_eq_none hi, List.getElem?_eq_none (by rw [List.length_map]; omega)]
  rw [this] at N'
  exact h D c h' tk F' N' l1
end
end
section
open LCg LCt
/-- a walk that also keeps what the ledger says of its source -/
theorem walks_src {prog : Program} {w : World} {A : Around} {I : Addr} {fp : List Addr} {n : Nat} {P : Nat → Value → Prop} {St : Nat → Heap → Prop} (W : Walks prog w A I fp [I] n P St) (src : Led) (hI : ∀ p ∈ src, p.1 ≠ I) :
    Walks prog w A I (fp ++ src.map (·.1)) [I] n P (fun i h => St i h ∧ ∀ p ∈ src, h.get? p.1 = some p.2) where
  sub := fun b hb => List.mem_append_left _ (W.sub b hb)
  frame := fun i h h' st hk => ⟨W.frame i h h' st.1 fun b hb o e => hk b (List.mem_append_left _ hb) o e, fun p hp => hk _ (List.mem_append_right _ (List.mem_map_of_mem hp)) _ (st.2 p hp)⟩
  item := fun i s Q E hi st hQ => W.item i s Q E hi st.1 fun v h' tk hP hst hk => hQ v h' tk hP ⟨hst, fun p hp => hk _ _ (by simpa using hI p hp) (st.2 p hp)⟩ hk
  done := fun s Q E st hQ => W.done s Q E st.1 hQ
  self := fun i s Q E st hQ => W.self i s Q E st.1 hQ

/-- the end of a comprehension's turn -/
def CTurn (h₀ : Heap) (L : Addr) (m : Str → Option Value) (s₁ : Shared) (I : Addr) (oI : Obj) (C : Addr) (oC : Obj) (D : Addr) (oD : Obj) (src : Led) (J : Value → Led → Prop) (y : Value) (s₂ : Shared) : Prop :=
  CompEnd h₀ L m s₁ I oI C oC D oD (fun n => ∀ p ∈ src, p ∈ n) J y s₂
theorem cturn {h₀ : Heap} {L I C D : Addr} {m : Str → Option Value} {s₁ : Shared} {oI oC oD : Obj} {src : Led} {J : Value → Led → Prop} {y : Value} {h' : Heap} {tk : Nat} {all : Led} (news' : Led)
    (F : Fr h₀ L h' m) (N : News h₀ L h' all) (hn : ∀ p ∈ (I, oI) :: (C, oC) :: (D, oD) :: news', p ∈ all) (off : ∀ p ∈ news', p.1 ≠ I ∧ p.1 ≠ C ∧ p.1 ≠ D) (hs : ∀ p ∈ src, p ∈ news') (hj : J y news') :
    CTurn h₀ L m s₁ I oI C oC D oD src J y { s₁ with heap := h', toks := tk } := CompEnd.intro F N news' hn (Off3.of off) hs hj
theorem cturn_new {h₀ : Heap} {L I C D T : Addr} {m : Str → Option Value} {s₁ : Shared} {oI oC oD o : Obj} {src : Led} {J : Value → Led → Prop} {y : Value} {h' : Heap} {tk : Nat} {n8 : Led}
    (F : Fr h₀ L h' m) (N : News h₀ L h' ((T, o) :: (I, oI) :: (C, oC) :: (D, oD) :: n8)) (off : ∀ p ∈ n8, p.1 ≠ I ∧ p.1 ≠ C ∧ p.1 ≠ D) (lt : @LT.lt Nat _ I T ∧ @LT.lt Nat _ C T ∧ @LT.lt Nat _ D T) (hs : ∀ p ∈ src, p ∈ n8) (hj : J y ((T, o) :: n8)) :
    CTurn h₀ L m s₁ I oI C oC D oD src J y { s₁ with heap := h', toks := tk } := by
  refine cturn ((T, o) :: n8) F N ?_ ?_ (fun p hp => .tail _ (hs p hp)) hj
  · intro p hp
    rcases List.mem_cons.mp hp with rfl | hp
    · exact .tail _ (.head _)
    rcases List.mem_cons.mp hp with rfl | hp
    · exact .tail _ (.tail _ (.head _))
    rcases List.mem_cons.mp hp with rfl | hp
    · exact .tail _ (.tail _ (.tail _ (.head _)))
    rcases List.mem_cons.mp hp with rfl | hp
    · exact .head _
    · exact .tail _ (.tail _ (.tail _ (.tail _ hp)))
  · intro p hp
    rcases List.mem_cons.mp hp with rfl | hp
    · exact ⟨Nat.ne_of_gt lt.1, Nat.ne_of_gt lt.2.1, Nat.ne_of_gt lt.2.2⟩
    · exact off p hp

/-- the turns of a comprehension, by an invariant -/
def Turns (prog : Program) (w : World) (A : Around) (h₀ : Heap) (L : Addr) (m : Str → Option Value) (env : Env) (elt : PySem.Expr) (x : Str) (scope : Scope) (cl : List (Str × Addr)) (s : Shared) (src : Led) (P : Nat → Value → Prop) (n : Nat) (J : Nat → List Value → Led → Prop) : Prop :=
  ∀ i v ys news I oI C oC D m₂ h tk (E' : Value → Shared → Prop), i < n → P i v → J i ys news → (∀ p ∈ src, p ∈ news) → NsObj oC m₂ → m₂ x = some v → Fr h₀ L h m → News h₀ L h ((I, oI) :: (C, oC) :: (D, lst ys) :: news) → (∀ p ∈ news, p.1 ≠ I ∧ p.1 ≠ C ∧ p.1 ≠ D) → ((@Ne Nat I C) ∧ (@Ne Nat I D) ∧ (@Ne Nat C D)) →
      wpAny (model prog w) A (eval elt (compEnvC scope cl C env)) (CTurn h₀ L m { s with heap := h, toks := tk } I oI C oC D (lst ys) src (fun y news' => J (i + 1) (ys ++ [y]) news')) E' { s with heap := h, toks := tk }
section
variable {prog : Program} {w : World} {A : Around} {E : Value → Shared → Prop} {s : Shared} {h₀ : Heap} {L : Addr} {m : Str → Option Value} {env : Env}
theorem rest_J {elt : PySem.Expr} {x : Str} {scope : Scope} {cl : List (Str × Addr)} {src : Led} {P : Nat → Value → Prop} {n : Nat} {J : Nat → List Value → Led → Prop} {Fin : List Value → Led → Prop} (turn : Turns prog w A h₀ L m env elt x scope cl s src P n J)
    (fin : ∀ ys news, J n ys news → (∀ p ∈ src, p ∈ news) → Fin ys news) : ∀ k i ys news, k + i = n → J i ys news → (∀ p ∈ src, p ∈ news) → CompRest prog w A h₀ L m env elt x scope cl s (fun n => ∀ p ∈ src, p ∈ n) P Fin k i ys news
  | 0, i, ys, news, e, j, hs => by
    rw [Nat.zero_add] at e; subst e
    exact CompRest.zero (fin ys news j hs)
  | k + 1, i, ys, news, e, j, hs => CompRest.succ fun v I oI C oC D m₂ h tk E' hP hC hx F N off ne => by
    refine wpAny_mono (turn i v ys news I oI C oC D m₂ h tk E' (by omega) hP j hs hC hx F N off.mem ne) (fun y s₂ h₂ => ?_) fun _ _ e => e
    obtain ⟨h', tk', news', rfl, F', N', o', S', J'⟩ := h₂
    exact ⟨h', tk', news', rfl, F', N', o', S', rest_J turn fin k (i + 1) _ _ (by omega) J' S'⟩

/-- a comprehension whose iterator is made -/
def CompAt (prog : Program) (w : World) (A : Around) (h₀ : Heap) (L : Addr) (m : Str → Option Value) (env : Env) (elt : PySem.Expr) (x : Str) (scope : Scope) (cl : List (Str × Addr)) (Fin : Shared → List Value → Led → Prop) (it : Value) (s₂ : Shared) : Prop :=
  ∃ (I : Addr) (fp : List Addr) (n : Nat) (P : Nat → Value → Prop) (St : Nat → Heap → Prop) (src news : Led), it = .ref I ∧ Walks prog w A I fp [I] n P St ∧ n ≤ sizeLine ∧ (∀ i h, St i h → ∃ o, h.get? I = some o) ∧
    (∀ i h h' o nw, St i h → h.get? I = some o → h'.get? I = some o → (∀ b o, h₀.get? b = some o → h'.get? b = some o) → News h₀ L h' nw → (∀ p ∈ src, p ∈ nw) → St i h') ∧
    St 0 s₂.heap ∧ (∀ b ∈ fp, b < s₂.heap.objs.size) ∧ Fr h₀ L s₂.heap m ∧ News h₀ L s₂.heap news ∧ L ≠ I ∧ h₀.get? I = none ∧ (∀ p ∈ news, p.1 ≠ I) ∧ (∀ p ∈ src, p ∈ news) ∧
    CompRest prog w A h₀ L m env elt x scope cl s₂ (fun n => ∀ p ∈ src, p ∈ n) P (Fin s₂) n 0 [] news

theorem comp_E {elt iter : PySem.Expr} {x : Str} {px : Pos} {scope : Scope} {cl : List (Str × Addr)} {pos : Pos} {Q : Value → Shared → Prop} (hF₀₀ : Fr h₀ L s.heap m)
    (hclos : closureFor scope env = pure cl) (hcell : ∀ y ∈ scope.names, y.2 ≠ .cell) (hkind : scope.kind = .function)
    (hnames : ∀ y ∈ scope.names, y.2 = .local → scope.names.lookup y.1 = some .local) (hx : scope.names.lookup x = some .local)
    (h : wpAny (model prog w) A (eval iter env) (fun xv s₁ => wpAny (model prog w) A (pyIter xv) (fun it s₂ => CompAt prog w A h₀ L m env elt x scope cl (fun s₂ => FinE h₀ L m s₂ Q) it s₂) E s₁) E s)
    (hs : ∀ x, foldedSetIterable iter env x = pure x := by intro _; rfl) :
    wpAny (model prog w) A (eval (.ListComp elt [⟨.Name x px, iter, [], 0⟩] scope pos) env) Q E s := by
  rw [eval_ListComp]
  refine wpAny_comprehension_free (use := none) rfl hs hclos hkind hnames (wpAny_mono h (fun xv s₁ h₁ => wpAny_mono h₁ (fun it s₂ h₂ => ?_) fun _ _ e => e) fun _ _ e => e)
  obtain ⟨I, fp, n, P, St, src, news, rfl, W, hn, hIo, hSt, st, hfp, F, N, hIL, hI₀, off, hsrc, R⟩ := h₂
  refine block_U W hn hIo hSt hcell hkind hx st hfp F N hIL hI₀ off hsrc R ?_
  intro D C h tk m' ys news' F' N' o1 hn hC₀ hD₀ hCL hDL hCD offC fin
  refine ⟨m', hn, fun h'' hs'' => fin D h'' tk (F'.change hs'' hCL hC₀) (fun p hp => ?_) o1⟩
  refine ⟨hs''.extBut _ _ ?_ (N' p hp).1, (N' p hp).2⟩
  rcases List.mem_cons.mp hp with rfl | hp
  · exact Ne.symm hCD
  · exact offC p hp

theorem comp_A {elt iter : PySem.Expr} {x y : Str} {px py : Pos} {scope : Scope} {cl : List (Str × Addr)} {pos spos : Pos} {Q : Flow → Shared → Prop} (hF₀₀ : Fr h₀ L s.heap m) (hLe : env.locals = L)
    (hsw : swapsWith (.ListComp elt [⟨.Name x px, iter, [], 0⟩] scope pos) (some (.Name y py)) spos.line env = pure true)
    (hclos : closureFor scope env = pure cl) (hcell : ∀ z ∈ scope.names, z.2 ≠ .cell) (hkind : scope.kind = .function)
    (hnames : ∀ z ∈ scope.names, z.2 = .local → scope.names.lookup z.1 = some .local) (hx : scope.names.lookup x = some .local)
    (hy : env.kindOf y = some .local) (hp : (env.scope.kind == .class || (env.scope.kind == .module && env.locals != env.globals)) = false)
    (h : wpAny (model prog w) A (eval iter env) (fun xv s₁ => wpAny (model prog w) A (pyIter xv) (fun it s₂ => CompAt prog w A h₀ L m env elt x scope cl (fun s₂ => FinA h₀ L m s₂ y Q) it s₂) E s₁) E s)
    (hs : ∀ x, foldedSetIterable iter env x = pure x := by intro _; rfl) :
    wpAny (model prog w) A (exec (.Assign [.Name y py] (.ListComp elt [⟨.Name x px, iter, [], 0⟩] scope pos) spos) env) Q E s := by
  subst hLe
  rw [exec_Assign_Name_used _ _ _ _ hsw]
  refine wpAny_bind (wpAny_standAt (wpAny_bind ?_))
  show wpAny _ A (do let _ ← comprehension (.ListComp elt [⟨.Name x px, iter, [], 0⟩] scope pos) scope env _ (newList []) false (eval iter env) (some (assign (.Name y py) env))) _ _ s
  refine wpAny_bind (wpAny_mono (wpAny_comprehension_free (use := some (assign (.Name y py) env)) (Q := fun _ s' => Q .next s') rfl hs hclos hkind hnames
    (wpAny_mono h (fun xv s₁ h₁ => wpAny_mono h₁ (fun it s₂ h₂ => ?_) fun _ _ e => e) fun _ _ e => e)) (fun _ s' hq => wpAny_pure (wpAny_pure hq)) fun _ _ e => e)
  obtain ⟨I, fp, n, P, St, src, news, rfl, W, hn, hIo, hSt, st, hfp, F, N, hIL, hI₀, off, hsrc, R⟩ := h₂
  refine block_U W hn hIo hSt hcell hkind hx st hfp F N hIL hI₀ off hsrc R ?_
  intro D C h' tk m' ys news' F' N' o1 hn hC₀ hD₀ hCL hDL hCD offC fin
  show wpAny _ A (assign (.Name y py) env (.ref D)) _ _ _
  refine wpAny_assign_Name (wpAny_storeName_local hy F'.ns (fun h₂ hn₂ hs₂ => ?_) hp)
  have hL₀ : h₀.get? env.locals = none := Heap.get?_none_of_le F'.above
  have F₂ : Fr h₀ env.locals h₂ (fun z => if z = y then some (.ref D) else m z) := ⟨hn₂, fun b o e => hs₂.extBut b o (fun q => by rw [q, hL₀] at e; cases e) (F'.keep b o e), F'.above⟩
  refine ⟨m', hn.sameBut hs₂ hCL, fun h'' hs'' => fin D h'' _ (F₂.change hs'' hCL hC₀) (fun p hp => ?_) o1⟩
  have z : h₂.get? p.1 = some p.2 := hs₂.extBut _ _ (N' p hp).2.1 (N' p hp).1
  refine ⟨hs''.extBut _ _ ?_ z, (N' p hp).2⟩
  rcases List.mem_cons.mp hp with rfl | hp
  · exact Ne.symm hCD
  · exact offC p hp

theorem comp_W {elt : PySem.Expr} {x : Str} {scope : Scope} {cl : List (Str × Addr)} {Fin : Shared → List Value → Led → Prop} {I : Addr} {fp : List Addr} {n : Nat} {P : Nat → Value → Prop} {St : Nat → Heap → Prop} {src news : Led} (J : Nat → List Value → Led → Prop)
    (W : Walks prog w A I fp [I] n P St) (hn : n ≤ 1000000) (hfp : ∀ b ∈ fp, b = I ∨ ∃ o, (b, o) ∈ src) (hst : St 0 s.heap) (hSt : ∀ i h, St i h → ∃ o, h.get? I = some o) (hIL : I ≠ L) (hI₀ : h₀.get? I = none) (hnI : ∀ p ∈ news, p.1 ≠ I)
    (F : Fr h₀ L s.heap m) (N : News h₀ L s.heap news) (hsrc : ∀ p ∈ src, p ∈ news) (hj : J 0 [] news)
    (turn : Turns prog w A h₀ L m env elt x scope cl s src P n J)
    (fin : ∀ ys news₁, J n ys news₁ → (∀ p ∈ src, p ∈ news₁) → Fin s ys news₁) : CompAt prog w A h₀ L m env elt x scope cl Fin (.ref I) s := by
  refine ⟨I, _, n, P, _, src, news, rfl, walks_src W src fun p hp => hnI p (hsrc p hp), by rw [sizeLine_eq]; omega, fun i h st => hSt i h st.1, ?_, ⟨hst, fun p hp => N.get (hsrc p hp)⟩, ?_, F, N, Ne.symm hIL, hI₀, hnI, hsrc, rest_J turn fin n 0 [] news (by omega) hj hsrc⟩
  · rintro i h h' o nw ⟨st, sg⟩ e e' _ N' hs'
    refine ⟨W.frame i h h' st fun b hb o' e1 => ?_, fun p hp => N'.get (hs' p hp)⟩
    rcases hfp b hb with rfl | ⟨o2, h2⟩
    · rw [e] at e1; cases e1; exact e'
    · have := sg _ h2
      rw [this] at e1; cases e1
      exact N'.get (hs' _ h2)
  · intro b hb
    rcases List.mem_append.mp hb with hb | hb
    · rcases hfp b hb with rfl | ⟨o2, h2⟩
      · obtain ⟨o, e⟩ := hSt _ _ hst
        exact Heap.lt_size e
      · exact Heap.lt_size (N.get (hsrc _ h2))
    · obtain ⟨p, hp, rfl⟩ := List.mem_map.mp hb
      exact Heap.lt_size (N.get (hsrc p hp))

theorem comp_list {elt : PySem.Expr} {x : Str} {scope : Scope} {cl : List (Str × Addr)} {Fin : Shared → List Value → Led → Prop} {l : Addr} {n : Nat} {vs : List Value} {news : Led} (J : Nat → List Value → Led → Prop) (hh : A.handled = none)
    (F : Fr h₀ L s.heap m) (N : News h₀ L s.heap news) (hm : (l, listOf vs.toArray n) ∈ news) (hz : vs.length ≤ 1000000) (hj : J 0 [] news)
    (turn : ∀ s : Shared, Turns prog w A h₀ L m env elt x scope cl s [(l, listOf vs.toArray n)] (fun i v => vs[i]? = some v) vs.length J)
    (fin : ∀ h ys news₁, J vs.length ys news₁ → (l, listOf vs.toArray n) ∈ news₁ → Fin { s with heap := h } ys news₁) : wpAny (model prog w) A (pyIter (.ref l)) (CompAt prog w A h₀ L m env elt x scope cl Fin) E s := by
  have hl := isList N hm
  have hlt : l < s.heap.objs.size := Heap.lt_size (N _ hm).1
  refine wpAny_pyIter_list hl ?_
  have up : ∀ b o, s.heap.get? b = some o → (s.heap.push { cls := .type "list_iterator", data := .fields #[.ref l, .int 0 0] }).get? b = some o := fun b o e => Heap.get?_push_of_some _ e
  have W := Walks.list (prog := prog) (w := w) hh s.heap.objs.size l (Nat.ne_of_lt hlt) vs.toArray
  rw [List.size_toArray] at W
  simp only [List.getElem?_toArray] at W
  refine comp_W (src := [(l, listOf vs.toArray n)]) (news := news) J W hz ?_ ⟨⟨_, Heap.get?_push_size _ rfl, rfl, rfl⟩, hl.push _⟩ (fun i h st => by obtain ⟨o, e, _⟩ := st.1; exact ⟨o, e⟩) (Nat.ne_of_gt F.ns.lt) (next_is_new F) (fun p hp => Nat.ne_of_lt (Heap.lt_size (N p hp).1))
    (F.keeps up) (N.grown up) (fun p hp => by rw [List.mem_singleton.mp hp]; exact hm) hj (turn _) (fun ys news₁ j hs => fin _ ys news₁ j (hs _ (List.mem_singleton.mpr rfl)))
  intro b hb
  rcases List.mem_cons.mp hb with rfl | hb
  · exact .inl rfl
  · rw [List.mem_singleton.mp hb]; exact .inr ⟨_, List.mem_singleton.mpr rfl⟩

theorem comp_keys {elt : PySem.Expr} {x : Str} {scope : Scope} {cl : List (Str × Addr)} {Fin : Shared → List Value → Led → Prop} {d : Addr} {o : Obj} {xs : TL} {news : Led} (J : Nat → List Value → Led → Prop) (hh : A.handled = none)
    (F : Fr h₀ L s.heap m) (N : News h₀ L s.heap news) (T : TabAt prog w news d o xs) (hz : xs.length ≤ 1000000) (hj : J 0 [] news)
    (turn : ∀ s : Shared, Turns prog w A h₀ L m env elt x scope cl s [(d, o)] (fun i v => ∃ e, xs[i]? = some e ∧ v = .ref e.2.1) xs.length J)
    (fin : ∀ h ys news₁, J xs.length ys news₁ → (d, o) ∈ news₁ → Fin { s with heap := h } ys news₁) : wpAny (model prog w) A (pyIter (.ref d)) (CompAt prog w A h₀ L m env elt x scope cl Fin) E s := by
  obtain ⟨es, ep, hc, hd, hz', he⟩ := T.tab.entries
  have ho := N.get T.mem
  have hD : DEnt s.heap d es ep := ⟨o, ho, hc, hd⟩
  refine iter_D T.lo hD ?_
  have up : ∀ b o, s.heap.get? b = some o → (s.heap.push { cls := .type "dict_keyiterator", data := .fields #[.ref d, .int 0 0, .int es.size 0, .int ep 0] }).get? b = some o := fun b o e => Heap.get?_push_of_some _ e
  have W := walks_D (prog := prog) (w := w) hh s.heap.objs.size d (Nat.ne_of_lt hD.lt) es ep
  have W' : Walks prog w A s.heap.objs.size [s.heap.objs.size, d] [s.heap.objs.size] xs.length (fun i v => ∃ e, xs[i]? = some e ∧ v = .ref e.2.1) (fun i h => h.IsKeyIter s.heap.objs.size d i es.size ep ∧ DEnt h d es ep) :=
    { sub := W.sub, frame := W.frame, done := hz' ▸ W.done, self := W.self, item := fun i s Q E hi st hQ => W.item i s Q E (by omega) st fun v h' tk hP => hQ v h' tk (by
        obtain ⟨e, h1, h2⟩ := hP
        rw [he i] at h1
        obtain ⟨y, hy, rfl⟩ := Option.map_eq_some_iff.mp h1
        exact ⟨y, hy, h2.symm⟩) }
  refine comp_W (src := [(d, o)]) (news := news) J W' hz ?_ ⟨⟨_, Heap.get?_push_size _ rfl, rfl, rfl⟩, hD.at' fun _ e => up _ _ e⟩ (fun i h st => by obtain ⟨o, e, _⟩ := st.1; exact ⟨o, e⟩) (Nat.ne_of_gt F.ns.lt) (next_is_new F) (fun p hp => Nat.ne_of_lt (Heap.lt_size (N p hp).1))
    (F.keeps up) (N.grown up) (fun p hp => by rw [List.mem_singleton.mp hp]; exact T.mem) hj (turn _) (fun ys news₁ j hs => fin _ ys news₁ j (hs _ (List.mem_singleton.mpr rfl)))
  intro b hb
  rcases List.mem_cons.mp hb with rfl | hb
  · exact .inl rfl
  · rw [List.mem_singleton.mp hb]; exact .inr ⟨_, List.mem_singleton.mpr rfl⟩

theorem comp_values {elt : PySem.Expr} {x : Str} {scope : Scope} {cl : List (Str × Addr)} {Fin : Shared → List Value → Led → Prop} {d V : Addr} {o : Obj} {xs : TL} {news : Led} (J : Nat → List Value → Led → Prop) (hh : A.handled = none)
    (F : Fr h₀ L s.heap m) (N : News h₀ L s.heap news) (hV : (V, { cls := .type "dict_values", data := .fields #[.ref d] }) ∈ news) (T : TabAt prog w news d o xs) (hz : xs.length ≤ 1000000) (hj : J 0 [] news)
    (turn : ∀ s : Shared, Turns prog w A h₀ L m env elt x scope cl s [(d, o)] (fun i v => ∃ e, xs[i]? = some e ∧ v = e.2.2) xs.length J)
    (fin : ∀ h ys news₁, J xs.length ys news₁ → (d, o) ∈ news₁ → Fin { s with heap := h } ys news₁) : wpAny (model prog w) A (pyIter (.ref V)) (CompAt prog w A h₀ L m env elt x scope cl Fin) E s := by
  obtain ⟨es, ep, hc, hd, hz', he⟩ := T.tab.entries
  have ho := N.get T.mem
  have hD : DEnt s.heap d es ep := ⟨o, ho, hc, hd⟩
  refine viter_D ⟨_, N.get hV, rfl, rfl⟩ hD ?_
  have up : ∀ b o, s.heap.get? b = some o → (s.heap.push { cls := .type "dict_valueiterator", data := .fields #[.ref d, .int 0 0, .int es.size 0, .int ep 0] }).get? b = some o := fun b o e => Heap.get?_push_of_some _ e
  have W := vwalks_D (prog := prog) (w := w) hh s.heap.objs.size d (Nat.ne_of_lt hD.lt) es ep
  have W' : Walks prog w A s.heap.objs.size [s.heap.objs.size, d] [s.heap.objs.size] xs.length (fun i v => ∃ e, xs[i]? = some e ∧ v = e.2.2) (fun i h => h.IsValIter s.heap.objs.size d i es.size ep ∧ DEnt h d es ep) :=
    { sub := W.sub, frame := W.frame, done := hz' ▸ W.done, self := W.self, item := fun i s Q E hi st hQ => W.item i s Q E (by omega) st fun v h' tk hP => hQ v h' tk (by
        obtain ⟨e, h1, h2⟩ := hP
        rw [he i] at h1
        obtain ⟨y, hy, rfl⟩ := Option.map_eq_some_iff.mp h1
        exact ⟨y, hy, h2.symm⟩) }
  refine comp_W (src := [(d, o)]) (news := news) J W' hz ?_ ⟨⟨_, Heap.get?_push_size _ rfl, rfl, rfl⟩, hD.at' fun _ e => up _ _ e⟩ (fun i h st => by obtain ⟨o, e, _⟩ := st.1; exact ⟨o, e⟩) (Nat.ne_of_gt F.ns.lt) (next_is_new F) (fun p hp => Nat.ne_of_lt (Heap.lt_size (N p hp).1))
    (F.keeps up) (N.grown up) (fun p hp => by rw [List.mem_singleton.mp hp]; exact T.mem) hj (turn _) (fun ys news₁ j hs => fin _ ys news₁ j (hs _ (List.mem_singleton.mpr rfl)))
  intro b hb
  rcases List.mem_cons.mp hb with rfl | hb
  · exact .inl rfl
  · rw [List.mem_singleton.mp hb]; exact .inr ⟨_, List.mem_singleton.mpr rfl⟩

theorem comp_range {elt : PySem.Expr} {x : Str} {scope : Scope} {cl : List (Str × Addr)} {Fin : Shared → List Value → Led → Prop} {r : Addr} {b : Int} {t u v : Tok} {n : Nat} {news : Led} (J : Nat → List Value → Led → Prop) (hh : A.handled = none)
    (F : Fr h₀ L s.heap m) (N : News h₀ L s.heap news) (hr : IsRange s.heap r 0 b 1 t u v) (hb : b = (n : Int)) (hz : n ≤ 1000000) (hj : J 0 [] news)
    (turn : ∀ s : Shared, Turns prog w A h₀ L m env elt x scope cl s [] (fun i v => ∃ t, v = .int (0 + (i : Int)) t) n J)
    (fin : ∀ h ys news₁, J n ys news₁ → Fin { s with heap := h } ys news₁) : wpAny (model prog w) A (pyIter (.ref r)) (CompAt prog w A h₀ L m env elt x scope cl Fin) E s := by
  subst hb
  have hsm : Builtin.Range.small 0 (n : Int) 1 = true := small_one (by decide) (by decide) (by omega) (by omega)
  have hsz : Builtin.Range.rangeSize 0 (n : Int) 1 = ((n : Nat) : Int) := by rw [rangeSize_one]; split <;> omega
  refine wpAny_pyIter_range hr hsm ?_
  refine comp_W (src := []) (news := news) J (range_walks hh 0 n) hz ?_ (by show IsRangeIter _ _ _ _ _; rw [hsz]; simpa using Heap.get?_push_size _ rfl) (fun i h st => ⟨_, st⟩) (Nat.ne_of_gt F.ns.lt) (next_is_new F) (fun p hp => Nat.ne_of_lt (Heap.lt_size (N p hp).1))
    (F.keeps fun _ _ e => Heap.get?_push_of_some _ e) (N.grown fun _ _ e => Heap.get?_push_of_some _ e) (fun _ h => nomatch h) hj (turn _) (fun ys news₁ j _ => fin _ ys news₁ j)
  intro b hb
  exact .inl (List.mem_singleton.mp hb)
end

/-- the turns of a comprehension, by an invariant -/
def Turns_T (prog : Program) (w : World) (A : Around) (h₀ : Heap) (L : Addr) (m : Str → Option Value) (env : Env) (ct : PySem.Expr) (elt : PySem.Expr) (x : Str) (scope : Scope) (cl : List (Str × Addr)) (s : Shared) (src : Led) (P : Nat → Value → Prop) (n : Nat) (J : Nat → List Value → Led → Prop) : Prop :=
  ∀ i v ys news I oI C oC D m₂ h tk (E' : Value → Shared → Prop), i < n → P i v → J i ys news → (∀ p ∈ src, p ∈ news) → NsObj oC m₂ → m₂ x = some v → Fr h₀ L h m → News h₀ L h ((I, oI) :: (C, oC) :: (D, lst ys) :: news) → (∀ p ∈ news, p.1 ≠ I ∧ p.1 ≠ C ∧ p.1 ≠ D) → ((@Ne Nat I C) ∧ (@Ne Nat I D) ∧ (@Ne Nat C D)) →
      wpAny (model prog w) A (isTrue ct (compEnvC scope cl C env) (eval ct (compEnvC scope cl C env))) (fun ok s' => if ok = true then
        wpAny (model prog w) A (eval elt (compEnvC scope cl C env)) (CTurn h₀ L m { s with heap := h, toks := tk } I oI C oC D (lst ys) src (fun y news' => J (i + 1) (ys ++ [y]) news')) E' s'
        else CTurn h₀ L m { s with heap := h, toks := tk } I oI C oC D (lst ys) src (fun _ news' => J (i + 1) ys news') Value.none s') E' { s with heap := h, toks := tk }
section
variable {prog : Program} {w : World} {A : Around} {E : Value → Shared → Prop} {s : Shared} {h₀ : Heap} {L : Addr} {m : Str → Option Value} {env : Env}
theorem rest_J_T {ct : PySem.Expr} {elt : PySem.Expr} {x : Str} {scope : Scope} {cl : List (Str × Addr)} {src : Led} {P : Nat → Value → Prop} {n : Nat} {J : Nat → List Value → Led → Prop} {Fin : List Value → Led → Prop} (turn : Turns_T prog w A h₀ L m env ct elt x scope cl s src P n J)
    (fin : ∀ ys news, J n ys news → (∀ p ∈ src, p ∈ news) → Fin ys news) : ∀ k i ys news, k + i = n → J i ys news → (∀ p ∈ src, p ∈ news) → CompRestT prog w A h₀ L m env ct elt x scope cl s (fun n => ∀ p ∈ src, p ∈ n) P Fin k i ys news
  | 0, i, ys, news, e, j, hs => by
    rw [Nat.zero_add] at e; subst e
    exact CompRestT.zero (fin ys news j hs)
  | k + 1, i, ys, news, e, j, hs => CompRestT.succ fun v I oI C oC D m₂ h tk E' hP hC hx F N off ne => by
    refine wpAny_mono (turn i v ys news I oI C oC D m₂ h tk E' (by omega) hP j hs hC hx F N off.mem ne) (fun y s₂ h₂ => ?_) fun _ _ e => e
    cases y with
    | true =>
      simp only [if_true] at h₂ ⊢
      refine wpAny_mono h₂ (fun y s₃ h₃ => ?_) fun _ _ e => e
      obtain ⟨h', tk', news', rfl, F', N', o', S', J'⟩ := h₃
      exact ⟨h', tk', news', rfl, F', N', o', S', rest_J_T turn fin k (i + 1) _ _ (by omega) J' S'⟩
    | false =>
      simp only [Bool.false_eq_true, if_false] at h₂ ⊢
      obtain ⟨h', tk', news', rfl, F', N', o', S', J'⟩ := h₂
      exact ⟨h', tk', news', rfl, F', N', o', S', rest_J_T turn fin k (i + 1) _ _ (by omega) J' S'⟩

/-- a comprehension whose iterator is made -/
def CompAt_T (prog : Program) (w : World) (A : Around) (h₀ : Heap) (L : Addr) (m : Str → Option Value) (env : Env) (ct : PySem.Expr) (elt : PySem.Expr) (x : Str) (scope : Scope) (cl : List (Str × Addr)) (Fin : Shared → List Value → Led → Prop) (it : Value) (s₂ : Shared) : Prop :=
  ∃ (I : Addr) (fp : List Addr) (n : Nat) (P : Nat → Value → Prop) (St : Nat → Heap → Prop) (src news : Led), it = .ref I ∧ Walks prog w A I fp [I] n P St ∧ n ≤ sizeLine ∧ (∀ i h, St i h → ∃ o, h.get? I = some o) ∧
    (∀ i h h' o nw, St i h → h.get? I = some o → h'.get? I = some o → (∀ b o, h₀.get? b = some o → h'.get? b = some o) → News h₀ L h' nw → (∀ p ∈ src, p ∈ nw) → St i h') ∧
    St 0 s₂.heap ∧ (∀ b ∈ fp, b < s₂.heap.objs.size) ∧ Fr h₀ L s₂.heap m ∧ News h₀ L s₂.heap news ∧ L ≠ I ∧ h₀.get? I = none ∧ (∀ p ∈ news, p.1 ≠ I) ∧ (∀ p ∈ src, p ∈ news) ∧
    CompRestT prog w A h₀ L m env ct elt x scope cl s₂ (fun n => ∀ p ∈ src, p ∈ n) P (Fin s₂) n 0 [] news

theorem comp_E_T {ct : PySem.Expr} {elt iter : PySem.Expr} {x : Str} {px : Pos} {scope : Scope} {cl : List (Str × Addr)} {pos : Pos} {Q : Value → Shared → Prop} (hF₀₀ : Fr h₀ L s.heap m)
    (hclos : closureFor scope env = pure cl) (hcell : ∀ y ∈ scope.names, y.2 ≠ .cell) (hkind : scope.kind = .function)
    (hnames : ∀ y ∈ scope.names, y.2 = .local → scope.names.lookup y.1 = some .local) (hx : scope.names.lookup x = some .local)
    (h : wpAny (model prog w) A (eval iter env) (fun xv s₁ => wpAny (model prog w) A (pyIter xv) (fun it s₂ => CompAt_T prog w A h₀ L m env ct elt x scope cl (fun s₂ => FinE h₀ L m s₂ Q) it s₂) E s₁) E s)
    (hs : ∀ x, foldedSetIterable iter env x = pure x := by intro _; rfl) :
    wpAny (model prog w) A (eval (.ListComp elt [⟨.Name x px, iter, [ct], 0⟩] scope pos) env) Q E s := by
  rw [eval_ListComp]
  refine wpAny_comprehension_free (use := none) rfl hs hclos hkind hnames (wpAny_mono h (fun xv s₁ h₁ => wpAny_mono h₁ (fun it s₂ h₂ => ?_) fun _ _ e => e) fun _ _ e => e)
  obtain ⟨I, fp, n, P, St, src, news, rfl, W, hn, hIo, hSt, st, hfp, F, N, hIL, hI₀, off, hsrc, R⟩ := h₂
  refine block_T W hn hIo hSt hcell hkind hx st hfp F N hIL hI₀ off hsrc R ?_
  intro D C h tk m' ys news' F' N' o1 hn hC₀ hD₀ hCL hDL hCD offC fin
  refine ⟨m', hn, fun h'' hs'' => fin D h'' tk (F'.change hs'' hCL hC₀) (fun p hp => ?_) o1⟩
  refine ⟨hs''.extBut _ _ ?_ (N' p hp).1, (N' p hp).2⟩
  rcases List.mem_cons.mp hp with rfl | hp
  · exact Ne.symm hCD
  · exact offC p hp

theorem comp_A_T {ct : PySem.Expr} {elt iter : PySem.Expr} {x y : Str} {px py : Pos} {scope : Scope} {cl : List (Str × Addr)} {pos spos : Pos} {Q : Flow → Shared → Prop} (hF₀₀ : Fr h₀ L s.heap m) (hLe : env.locals = L)
    (hsw : swapsWith (.ListComp elt [⟨.Name x px, iter, [ct], 0⟩] scope pos) (some (.Name y py)) spos.line env = pure true)
    (hclos : closureFor scope env = pure cl) (hcell : ∀ z ∈ scope.names, z.2 ≠ .cell) (hkind : scope.kind = .function)
    (hnames : ∀ z ∈ scope.names, z.2 = .local → scope.names.lookup z.1 = some .local) (hx : scope.names.lookup x = some .local)
    (hy : env.kindOf y = some .local) (hp : (env.scope.kind == .class || (env.scope.kind == .module && env.locals != env.globals)) = false)
    (h : wpAny (model prog w) A (eval iter env) (fun xv s₁ => wpAny (model prog w) A (pyIter xv) (fun it s₂ => CompAt_T prog w A h₀ L m env ct elt x scope cl (fun s₂ => FinA h₀ L m s₂ y Q) it s₂) E s₁) E s)
    (hs : ∀ x, foldedSetIterable iter env x = pure x := by intro _; rfl) :
    wpAny (model prog w) A (exec (.Assign [.Name y py] (.ListComp elt [⟨.Name x px, iter, [ct], 0⟩] scope pos) spos) env) Q E s := by
  subst hLe
  rw [exec_Assign_Name_used _ _ _ _ hsw]
  refine wpAny_bind (wpAny_standAt (wpAny_bind ?_))
  show wpAny _ A (do let _ ← comprehension (.ListComp elt [⟨.Name x px, iter, [ct], 0⟩] scope pos) scope env _ (newList []) false (eval iter env) (some (assign (.Name y py) env))) _ _ s
  refine wpAny_bind (wpAny_mono (wpAny_comprehension_free (use := some (assign (.Name y py) env)) (Q := fun _ s' => Q .next s') rfl hs hclos hkind hnames
    (wpAny_mono h (fun xv s₁ h₁ => wpAny_mono h₁ (fun it s₂ h₂ => ?_) fun _ _ e => e) fun _ _ e => e)) (fun _ s' hq => wpAny_pure (wpAny_pure hq)) fun _ _ e => e)
  obtain ⟨I, fp, n, P, St, src, news, rfl, W, hn, hIo, hSt, st, hfp, F, N, hIL, hI₀, off, hsrc, R⟩ := h₂
  refine block_T W hn hIo hSt hcell hkind hx st hfp F N hIL hI₀ off hsrc R ?_
  intro D C h' tk m' ys news' F' N' o1 hn hC₀ hD₀ hCL hDL hCD offC fin
  show wpAny _ A (assign (.Name y py) env (.ref D)) _ _ _
  refine wpAny_assign_Name (wpAny_storeName_local hy F'.ns (fun h₂ hn₂ hs₂ => ?_) hp)
  have hL₀ : h₀.get? env.locals = none := Heap.get?_none_of_le F'.above
  have F₂ : Fr h₀ env.locals h₂ (fun z => if z = y then some (.ref D) else m z) := ⟨hn₂, fun b o e => hs₂.extBut b o (fun q => by rw [q, hL₀] at e; cases e) (F'.keep b o e), F'.above⟩
  refine ⟨m', hn.sameBut hs₂ hCL, fun h'' hs'' => fin D h'' _ (F₂.change hs'' hCL hC₀) (fun p hp => ?_) o1⟩
  have z : h₂.get? p.1 = some p.2 := hs₂.extBut _ _ (N' p hp).2.1 (N' p hp).1
  refine ⟨hs''.extBut _ _ ?_ z, (N' p hp).2⟩
  rcases List.mem_cons.mp hp with rfl | hp
  · exact Ne.symm hCD
  · exact offC p hp

theorem comp_W_T {ct : PySem.Expr} {elt : PySem.Expr} {x : Str} {scope : Scope} {cl : List (Str × Addr)} {Fin : Shared → List Value → Led → Prop} {I : Addr} {fp : List Addr} {n : Nat} {P : Nat → Value → Prop} {St : Nat → Heap → Prop} {src news : Led} (J : Nat → List Value → Led → Prop)
    (W : Walks prog w A I fp [I] n P St) (hn : n ≤ 1000000) (hfp : ∀ b ∈ fp, b = I ∨ ∃ o, (b, o) ∈ src) (hst : St 0 s.heap) (hSt : ∀ i h, St i h → ∃ o, h.get? I = some o) (hIL : I ≠ L) (hI₀ : h₀.get? I = none) (hnI : ∀ p ∈ news, p.1 ≠ I)
    (F : Fr h₀ L s.heap m) (N : News h₀ L s.heap news) (hsrc : ∀ p ∈ src, p ∈ news) (hj : J 0 [] news)
    (turn : Turns_T prog w A h₀ L m env ct elt x scope cl s src P n J)
    (fin : ∀ ys news₁, J n ys news₁ → (∀ p ∈ src, p ∈ news₁) → Fin s ys news₁) : CompAt_T prog w A h₀ L m env ct elt x scope cl Fin (.ref I) s := by
  refine ⟨I, _, n, P, _, src, news, rfl, walks_src W src fun p hp => hnI p (hsrc p hp), by rw [sizeLine_eq]; omega, fun i h st => hSt i h st.1, ?_, ⟨hst, fun p hp => N.get (hsrc p hp)⟩, ?_, F, N, Ne.symm hIL, hI₀, hnI, hsrc, rest_J_T turn fin n 0 [] news (by omega) hj hsrc⟩
  · rintro i h h' o nw ⟨st, sg⟩ e e' _ N' hs'
    refine ⟨W.frame i h h' st fun b hb o' e1 => ?_, fun p hp => N'.get (hs' p hp)⟩
    rcases hfp b hb with rfl | ⟨o2, h2⟩
    · rw [e] at e1; cases e1; exact e'
    · have := sg _ h2
      rw [this] at e1; cases e1
      exact N'.get (hs' _ h2)
  · intro b hb
    rcases List.mem_append.mp hb with hb | hb
    · rcases hfp b hb with rfl | ⟨o2, h2⟩
      · obtain ⟨o, e⟩ := hSt _ _ hst
        exact Heap.lt_size e
      · exact Heap.lt_size (N.get (hsrc _ h2))
    · obtain ⟨p, hp, rfl⟩ := List.mem_map.mp hb
      exact Heap.lt_size (N.get (hsrc p hp))

theorem comp_list_T {ct : PySem.Expr} {elt : PySem.Expr} {x : Str} {scope : Scope} {cl : List (Str × Addr)} {Fin : Shared → List Value → Led → Prop} {l : Addr} {n : Nat} {vs : List Value} {news : Led} (J : Nat → List Value → Led → Prop) (hh : A.handled = none)
    (F : Fr h₀ L s.heap m) (N : News h₀ L s.heap news) (hm : (l, listOf vs.toArray n) ∈ news) (hz : vs.length ≤ 1000000) (hj : J 0 [] news)
    (turn : ∀ s : Shared, Turns_T prog w A h₀ L m env ct elt x scope cl s [(l, listOf vs.toArray n)] (fun i v => vs[i]? = some v) vs.length J)
    (fin : ∀ h ys news₁, J vs.length ys news₁ → (l, listOf vs.toArray n) ∈ news₁ → Fin { s with heap := h } ys news₁) : wpAny (model prog w) A (pyIter (.ref l)) (CompAt_T prog w A h₀ L m env ct elt x scope cl Fin) E s := by
  have hl := isList N hm
  have hlt : l < s.heap.objs.size := Heap.lt_size (N _ hm).1
  refine wpAny_pyIter_list hl ?_
  have up : ∀ b o, s.heap.get? b = some o → (s.heap.push { cls := .type "list_iterator", data := .fields #[.ref l, .int 0 0] }).get? b = some o := fun b o e => Heap.get?_push_of_some _ e
  have W := Walks.list (prog := prog) (w := w) hh s.heap.objs.size l (Nat.ne_of_lt hlt) vs.toArray
  rw [List.size_toArray] at W
  simp only [List.getElem?_toArray] at W
  refine comp_W_T (src := [(l, listOf vs.toArray n)]) (news := news) J W hz ?_ ⟨⟨_, Heap.get?_push_size _ rfl, rfl, rfl⟩, hl.push _⟩ (fun i h st => by obtain ⟨o, e, _⟩ := st.1; exact ⟨o, e⟩) (Nat.ne_of_gt F.ns.lt) (next_is_new F) (fun p hp => Nat.ne_of_lt (Heap.lt_size (N p hp).1))
    (F.keeps up) (N.grown up) (fun p hp => by rw [List.mem_singleton.mp hp]; exact hm) hj (turn _) (fun ys news₁ j hs => fin _ ys news₁ j (hs _ (List.mem_singleton.mpr rfl)))
  intro b hb
  rcases List.mem_cons.mp hb with rfl | hb
  · exact .inl rfl
  · rw [List.mem_singleton.mp hb]; exact .inr ⟨_, List.mem_singleton.mpr rfl⟩

theorem comp_keys_T {ct : PySem.Expr} {elt : PySem.Expr} {x : Str} {scope : Scope} {cl : List (Str × Addr)} {Fin : Shared → List Value → Led → Prop} {d : Addr} {o : Obj} {xs : TL} {news : Led} (J : Nat → List Value → Led → Prop) (hh : A.handled = none)
    (F : Fr h₀ L s.heap m) (N : News h₀ L s.heap news) (T : TabAt prog w news d o xs) (hz : xs.length ≤ 1000000) (hj : J 0 [] news)
    (turn : ∀ s : Shared, Turns_T prog w A h₀ L m env ct elt x scope cl s [(d, o)] (fun i v => ∃ e, xs[i]? = some e ∧ v = .ref e.2.1) xs.length J)
    (fin : ∀ h ys news₁, J xs.length ys news₁ → (d, o) ∈ news₁ → Fin { s with heap := h } ys news₁) : wpAny (model prog w) A (pyIter (.ref d)) (CompAt_T prog w A h₀ L m env ct elt x scope cl Fin) E s := by
  obtain ⟨es, ep, hc, hd, hz', he⟩ := T.tab.entries
  have ho := N.get T.mem
  have hD : DEnt s.heap d es ep := ⟨o, ho, hc, hd⟩
  refine iter_D T.lo hD ?_
  have up : ∀ b o, s.heap.get? b = some o → (s.heap.push { cls := .type "dict_keyiterator", data := .fields #[.ref d, .int 0 0, .int es.size 0, .int ep 0] }).get? b = some o := fun b o e => Heap.get?_push_of_some _ e
  have W := walks_D (prog := prog) (w := w) hh s.heap.objs.size d (Nat.ne_of_lt hD.lt) es ep
  have W' : Walks prog w A s.heap.objs.size [s.heap.objs.size, d] [s.heap.objs.size] xs.length (fun i v => ∃ e, xs[i]? = some e ∧ v = .ref e.2.1) (fun i h => h.IsKeyIter s.heap.objs.size d i es.size ep ∧ DEnt h d es ep) :=
    { sub := W.sub, frame := W.frame, done := hz' ▸ W.done, self := W.self, item := fun i s Q E hi st hQ => W.item i s Q E (by omega) st fun v h' tk hP => hQ v h' tk (by
        obtain ⟨e, h1, h2⟩ := hP
        rw [he i] at h1
        obtain ⟨y, hy, rfl⟩ := Option.map_eq_some_iff.mp h1
        exact ⟨y, hy, h2.symm⟩) }
  refine comp_W_T (src := [(d, o)]) (news := news) J W' hz ?_ ⟨⟨_, Heap.get?_push_size _ rfl, rfl, rfl⟩, hD.at' fun _ e => up _ _ e⟩ (fun i h st => by obtain ⟨o, e, _⟩ := st.1; exact ⟨o, e⟩) (Nat.ne_of_gt F.ns.lt) (next_is_new F) (fun p hp => Nat.ne_of_lt (Heap.lt_size (N p hp).1))
    (F.keeps up) (N.grown up) (fun p hp => by rw [List.mem_singleton.mp hp]; exact T.mem) hj (turn _) (fun ys news₁ j hs => fin _ ys news₁ j (hs _ (List.mem_singleton.mpr rfl)))
  intro b hb
  rcases List.mem_cons.mp hb with rfl | hb
  · exact .inl rfl
  · rw [List.mem_singleton.mp hb]; exact .inr ⟨_, List.mem_singleton.mpr rfl⟩

theorem comp_values_T {ct : PySem.Expr} {elt : PySem.Expr} {x : Str} {scope : Scope} {cl : List (Str × Addr)} {Fin : Shared → List Value → Led → Prop} {d V : Addr} {o : Obj} {xs : TL} {news : Led} (J : Nat → List Value → Led → Prop) (hh : A.handled = none)
    (F : Fr h₀ L s.heap m) (N : News h₀ L s.heap news) (hV : (V, { cls := .type "dict_values", data := .fields #[.ref d] }) ∈ news) (T : TabAt prog w news d o xs) (hz : xs.length ≤ 1000000) (hj : J 0 [] news)
    (turn : ∀ s : Shared, Turns_T prog w A h₀ L m env ct elt x scope cl s [(d, o)] (fun i v => ∃ e, xs[i]? = some e ∧ v = e.2.2) xs.length J)
    (fin : ∀ h ys news₁, J xs.length ys news₁ → (d, o) ∈ news₁ → Fin { s with heap := h } ys news₁) : wpAny (model prog w) A (pyIter (.ref V)) (CompAt_T prog w A h₀ L m env ct elt x scope cl Fin) E s := by
  obtain ⟨es, ep, hc, hd, hz', he⟩ := T.tab.entries
  have ho := N.get T.mem
  have hD : DEnt s.heap d es ep := ⟨o, ho, hc, hd⟩
  refine viter_D ⟨_, N.get hV, rfl, rfl⟩ hD ?_
  have up : ∀ b o, s.heap.get? b = some o → (s.heap.push { cls := .type "dict_valueiterator", data := .fields #[.ref d, .int 0 0, .int es.size 0, .int ep 0] }).get? b = some o := fun b o e => Heap.get?_push_of_some _ e
  have W := vwalks_D (prog := prog) (w := w) hh s.heap.objs.size d (Nat.ne_of_lt hD.lt) es ep
  have W' : Walks prog w A s.heap.objs.size [s.heap.objs.size, d] [s.heap.objs.size] xs.length (fun i v => ∃ e, xs[i]? = some e ∧ v = e.2.2) (fun i h => h.IsValIter s.heap.objs.size d i es.size ep ∧ DEnt h d es ep) :=
    { sub := W.sub, frame := W.frame, done := hz' ▸ W.done, self := W.self, item := fun i s Q E hi st hQ => W.item i s Q E (by omega) st fun v h' tk hP => hQ v h' tk (by
        obtain ⟨e, h1, h2⟩ := hP
        rw [he i] at h1
        obtain ⟨y, hy, rfl⟩ := Option.map_eq_some_iff.mp h1
        exact ⟨y, hy, h2.symm⟩) }
  refine comp_W_T (src := [(d, o)]) (news := news) J W' hz ?_ ⟨⟨_, Heap.get?_push_size _ rfl, rfl, rfl⟩, hD.at' fun _ e => up _ _ e⟩ (fun i h st => by obtain ⟨o, e, _⟩ := st.1; exact ⟨o, e⟩) (Nat.ne_of_gt F.ns.lt) (next_is_new F) (fun p hp => Nat.ne_of_lt (Heap.lt_size (N p hp).1))
    (F.keeps up) (N.grown up) (fun p hp => by rw [List.mem_singleton.mp hp]; exact T.mem) hj (turn _) (fun ys news₁ j hs => fin _ ys news₁ j (hs _ (List.mem_singleton.mpr rfl)))
  intro b hb
  rcases List.mem_cons.mp hb with rfl | hb
  · exact .inl rfl
  · rw [List.mem_singleton.mp hb]; exact .inr ⟨_, List.mem_singleton.mpr rfl⟩
end
end
section
section
variable {w : World} {K : Frag} {loose : List Str} {mean : ExcName → Option Value} {mg mb : Str → Option Value} {p : Program} {dp un : Nat} {gd : Option (List Code)} {cn : Str} {cs : Scope} {a : Addr} {ccd : Value} {cl : List (Str × Addr)} {outer : List Env} {A₀ : Around} {base h₀ : Heap} {L : Addr} {m : Str → Option Value} {news : Led} {s : Shared} {Q E : Value → Shared → Prop}
  {name qual : Str} {params : Arguments} {body : List Stmt} {scope : Scope} {dV kV doc pm cdv ct oc : Value} {an od : Option Addr} {osl : Array (Option Value)} {f : Addr} {args : List Value} {binds : List (Str × Value)} {prog : Program}

theorem enterC (B : Below A₀ base outer h₀) (F : Fr h₀ L s.heap m) (X : K.In h₀) (N : News h₀ L s.heap news) (T : Top p loose mean mg mb h₀) (hk : cs.kind = .function) (hd : dp ≤ 480)
    (ho : K.lookup f = some ⟨oc, od, .func (fnOf name qual params body scope dV kV doc pm an cdv ct), osl⟩) (hcd : codeIn K cdv qual = true)
    (hbind : bindArgs (fnOf name qual params body scope dV kV doc pm an cdv ct) ⟨args, []⟩ = pure binds) (hkind : (binds.all fun y => scope.names.lookup y.1 == some .local || scope.names.lookup y.1 == some .cell) = true)
    (hnd : ((cellsFrom 0 scope.names []).map (·.1)).Nodup) (hco : scope.isCoroutine = false) (hgen : scope.isGenerator = false) (hkf : scope.kind = .function)
    (h : ∀ g L' h₁ tk cells, Fr g L' h₁ (bindL (envOfC qual scope L' f cdv).kindOf binds fun _ => none) → News g L' h₁ (cells ++ news) →
      CellsAre (bindC (envOfC qual scope L' f cdv).kindOf binds fun _ => none) (cellsFrom (L' + 1) scope.names []) cells → Below (ktrTop dp un gd cn cs L a ccd cl outer) base (envX cn cs L a ccd cl :: outer) g → K.In g → Top p loose mean mg mb g → (∀ p ∈ news, p.1 < L') →
      wpAny (model prog w) (ktrTop (dp + 1) (un + 3) gd qual scope L' f cdv (cellsFrom (L' + 1) scope.names []) (envX cn cs L a ccd cl :: outer)) (execs body (envX qual scope L' f cdv (cellsFrom (L' + 1) scope.names [])))
        (fun fl s' => Back h₀ L m g Q (rv fl) s') (fun _ _ => False) { s with heap := h₁, toks := tk }) :
    wpAny (model prog w) (ktrTop dp un gd cn cs L a ccd cl outer) (call (.ref f) args) Q E s := by
  refine wpAny_call ?_
  refine code_defC B F X N T rfl rfl hk ho hcd (room_lt hd) (BindsTo.of_eq hbind) hkind hnd (fun g L' h₁ tk cells FG F' N' Y B' X' T' l1 => ?_) hco hgen hkf
  refine wpAny_mono (h g L' h₁ tk cells F' N' Y B' X' T' l1) (fun fl s' hb => ?_) fun _ _ x => x.elim
  obtain ⟨L₂, m₂, news₂, F₂, N₂, k⟩ := hb
  refine ⟨L₂, m₂, news₂, F₂, N₂, fun a b => ?_⟩
  have := k a b
  cases fl <;> exact this
end
end
section
/-- an entry of a ground's dictionary of known variables -/
structure Kn where
  (p t : Int)
  (ka u d : Addr)
/-- an entry of the lives: c is what a closed variable is worth -/
structure En where
  (p t : Int)
  (ka la : Addr)
  c : Option Value
abbrev Kn.key (k : Kn) : List Int := [k.p, k.t]
abbrev En.key (e : En) : List Int := [e.p, e.t]
def knTab (kx : List Kn) : TL := kx.map fun k => (k.key, k.ka, .ref k.u)
def lfTab (lx : List En) : TL := lx.map fun e => (e.key, e.ka, .ref e.la)
def Keep (fp : List Addr) (N N' : Led) : Prop := ∀ q ∈ N, q.1 ∉ fp → q ∈ N'
theorem Keep.refl {fp : List Addr} {N : Led} : Keep fp N N := fun _ h _ => h
theorem Keep.trans {fp : List Addr} {N N' N'' : Led} (a : Keep fp N N') (b : Keep fp N' N'') : Keep fp N N'' := fun q h hn => b q (a q h hn) hn
theorem Keep.wider {fp fp' : List Addr} {N N' : Led} (a : Keep fp N N') (h : ∀ x ∈ fp, x ∈ fp') : Keep fp' N N' := fun q hq hn => a q hq fun hx => hn (h _ hx)

def InstIn (N : Led) (u d : Addr) : Prop := (u, instObj 81 d) ∈ N ∧ ∃ P τ th ix v n, (d, dictOf (upEs P τ th ix v) n) ∈ N
theorem UpAt.inst {P : Params} {N : Led} {u d : Addr} {th v : Value} {ix : Int} (h : UpAt P N u d th ix v) : InstIn N u d := ⟨h.1, let ⟨τ, n, x⟩ := h.2; ⟨P, τ, th, ix, v, n, x⟩⟩
theorem InstIn.mono {N N' : Led} {u d : Addr} (h : InstIn N u d) (hu : ∀ o, (u, o) ∈ N → (u, o) ∈ N') (hd : ∀ o, (d, o) ∈ N → (d, o) ∈ N') : InstIn N' u d := ⟨hu _ h.1, let ⟨P, τ, th, ix, v, n, x⟩ := h.2; ⟨P, τ, th, ix, v, n, hd _ x⟩⟩
theorem InstIn.at {N : Led} {h₀ h : Heap} {L u d : Addr} (i : InstIn N u d) (n : News h₀ L h N) : ∃ od, InstAt h u (instObj 81 d) 81 (some od) := let ⟨_, _, _, _, _, _, x⟩ := i.2; ⟨_, InstAt.of_news n i.1 x⟩

section
variable {K : Type} [DecidableEq K] {xs : List (K × Addr × Value)} {k : K} {a : Addr} {v : Value}
theorem putAt_same : ∀ {xs : List (K × Addr × Value)}, (xs.map (·.1)).Nodup → ∀ {p : Addr × Value}, atKey xs k = some p → xs.map (putAt k p.2) = xs
  | [], _, _, _ => rfl
  | x :: r, hn, p, h => by
    rw [List.map_cons, List.nodup_cons] at hn
    by_cases hx : x.1 = k
    · have e : p = x.2 := by simpa [atKey, List.find?_cons, hx] using h.symm
      have hk : k ∉ r.map (·.1) := hx ▸ hn.1
      rw [List.map_cons, map_putAt_of_not_mem r k p.2 hk, putAt, if_pos hx, e]
    · have h' : atKey r k = some p := by simpa [atKey, List.find?_cons, hx] using h
      rw [List.map_cons, putAt_same hn.2 h', putAt, if_neg hx]
theorem storedH_same (hn : (xs.map (·.1)).Nodup) {p : Addr × Value} (h : atKey xs k = some p) (a : Addr) : storedH xs k a p.2 = xs := by
  rw [storedH_old h, putAt_same hn h]
theorem atKey_mem {p : Addr × Value} (h : atKey xs k = some p) : (k, p) ∈ xs := by
  obtain ⟨x, hx, rfl⟩ := Option.map_eq_some_iff.mp h
  have h1 := List.mem_of_find?_eq_some hx
  have h2 := List.find?_some hx
  have : x.1 = k := by simpa using h2
  rw [← this]; exact h1
theorem atKey_of_mem (hn : (xs.map (·.1)).Nodup) {p : Addr × Value} (h : (k, p) ∈ xs) : atKey xs k = some p := by
  obtain ⟨i, hi⟩ := List.mem_iff_getElem?.mp h
  exact atKey_of_get hn hi
theorem atKey_none (h : ∀ p, (k, p) ∉ xs) : atKey xs k = none := by
  cases e : atKey xs k with
  | none => rfl
  | some p => exact absurd (atKey_mem e) (h p)
end
theorem mem_knTab {kx : List Kn} {k : List Int} {p : Addr × Value} : (k, p) ∈ knTab kx ↔ ∃ e ∈ kx, e.key = k ∧ p = (e.ka, .ref e.u) := by
  unfold knTab
  rw [List.mem_map]
  constructor
  · rintro ⟨e, he, h⟩; cases h; exact ⟨e, he, rfl, rfl⟩
  · rintro ⟨e, he, rfl, rfl⟩; exact ⟨e, he, rfl⟩
theorem mem_lfTab {lx : List En} {k : List Int} {p : Addr × Value} : (k, p) ∈ lfTab lx ↔ ∃ e ∈ lx, e.key = k ∧ p = (e.ka, .ref e.la) := by
  unfold lfTab
  rw [List.mem_map]
  constructor
  · rintro ⟨e, he, h⟩; cases h; exact ⟨e, he, rfl, rfl⟩
  · rintro ⟨e, he, rfl, rfl⟩; exact ⟨e, he, rfl⟩

theorem openAt_mem {ups : List Up} {ix : Int} {x : Up} (h : openAt ups ix = some x) : x ∈ ups ∧ x.ix = ix := by
  unfold openAt at h
  obtain ⟨y, hy, e⟩ := Option.bind_eq_some_iff.mp h
  split at e
  · cases e; exact ⟨List.mem_of_getElem? hy, by assumption⟩
  · cases e
theorem spot_of_mem : ∀ {ups : List Up} {x : Up}, ups.Pairwise (fun x y => y.ix < x.ix) → x ∈ ups → ups[spot ups x.ix]? = some x
  | [], _, _, h => nomatch h
  | y :: r, x, hs, h => by
    rw [List.pairwise_cons] at hs
    rcases List.mem_cons.mp h with rfl | h
    · unfold spot; rw [List.takeWhile_cons, if_neg (by simp)]; rfl
    · have := hs.1 x h
      unfold spot
      rw [List.takeWhile_cons, if_pos (by simpa using this), List.length_cons]
      exact spot_of_mem hs.2 h
theorem openAt_none {ups : List Up} {ix : Int} (hs : ups.Pairwise (fun x y => y.ix < x.ix)) (h : openAt ups ix = none) : ∀ x ∈ ups, x.ix ≠ ix := by
  rintro x hx rfl
  unfold openAt at h
  rw [spot_of_mem hs hx] at h
  simp at h
theorem spot_split : ∀ {ups : List Up} {ix : Int}, ups.Pairwise (fun x y => y.ix < x.ix) → (∀ x ∈ ups.take (spot ups ix), ix < x.ix) ∧ ∀ x ∈ ups.drop (spot ups ix), x.ix ≤ ix
  | [], _, _ => ⟨fun _ h => by simp at h, fun _ h => by simp at h⟩
  | y :: r, ix, hs => by
    rw [List.pairwise_cons] at hs
    unfold spot
    by_cases hy : ix < y.ix
    · rw [List.takeWhile_cons, if_pos (by simpa using hy), List.length_cons, List.take_succ_cons, List.drop_succ_cons]
      have ih := spot_split (ix := ix) hs.2
      refine ⟨fun x hx => ?_, ih.2⟩
      rcases List.mem_cons.mp hx with rfl | hx
      · exact hy
      · exact ih.1 x hx
    · rw [List.takeWhile_cons, if_neg (by simpa using hy)]
      refine ⟨fun _ h => by simp at h, fun x hx => ?_⟩
      rcases List.mem_cons.mp hx with rfl | hx
      · omega
      · have := hs.1 x hx; omega
theorem mem_put {ups : List Up} {i : Nat} {x y : Up} : y ∈ ups.take i ++ x :: ups.drop i ↔ y = x ∨ y ∈ ups := by
  conv => rhs; rw [← List.take_append_drop i ups]
  simp only [List.mem_append, List.mem_cons]
  constructor
  · rintro (h | h | h) <;> simp [h]
  · rintro (h | h | h) <;> simp [h]
theorem put_sorted {ups : List Up} {u d : Addr} {ix : Int} (hs : ups.Pairwise (fun x y => y.ix < x.ix)) (hn : ∀ x ∈ ups, x.ix ≠ ix) :
    (ups.take (spot ups ix) ++ ⟨u, d, ix⟩ :: ups.drop (spot ups ix)).Pairwise (fun x y => y.ix < x.ix) := by
  have sp := spot_split (ix := ix) hs
  rw [List.pairwise_append, List.pairwise_cons]
  refine ⟨hs.take, ⟨fun y hy => ?_, hs.drop⟩, fun x hx y hy => ?_⟩
  · have h1 := sp.2 y hy
    have h2 := hn y (List.mem_of_mem_drop hy)
    show y.ix < ix
    omega
  · have h1 := sp.1 x hx
    rcases List.mem_cons.mp hy with rfl | hy
    · exact h1
    · have h2 := sp.2 y hy
      omega
theorem ups_len : ∀ {ups : List Up} {n : Nat}, ups.Pairwise (fun x y => y.ix < x.ix) → (∀ x ∈ ups, 0 ≤ x.ix ∧ x.ix < n) → ups.length ≤ n
  | [], _, _, _ => Nat.zero_le _
  | y :: r, n, hs, hr => by
    rw [List.pairwise_cons] at hs
    have h0 := hr y (.head _)
    have := ups_len (n := y.ix.toNat) hs.2 fun x hx => ⟨(hr x (.tail _ hx)).1, by have := hs.1 x hx; omega⟩
    rw [List.length_cons]
    omega
theorem keep_front {a : Addr} {o : Obj} {N : Led} : Keep [a] N ((a, o) :: off a N) := fun q hq hn => .tail _ (mem_off_of hq (by simpa using hn))
theorem keep_cons {fp : List Addr} {p : Addr × Obj} {N : Led} : Keep fp N (p :: N) := fun _ h _ => .tail _ h
section
variable {prog : Program} {w : World} {h₀ h : Heap} {L d a b : Addr} {N N' : Led} {o ob : Obj} {xs : TL} {ks : List Int} {fp : List Addr}
theorem KeyIn.ne_obj (x : KeyIn prog w N ks a) (n : News h₀ L h N) (hm : (b, ob) ∈ N) (hc : ob.cls ≠ .type "tuple") : a ≠ b := by
  rintro rfl
  obtain ⟨ok, h1, h2⟩ := x
  rw [news_one n h1 hm] at h2
  exact hc h2.1
/-- what is no tuple may change -/
def NoTup (N : Led) (fp : List Addr) : Prop := ∀ b ∈ fp, ∃ ob, (b, ob) ∈ N ∧ ob.cls ≠ .type "tuple"
theorem NoTup.nil {N : Led} : NoTup N [] := fun _ h => nomatch h
theorem NoTup.cons {N : Led} (hm : (b, ob) ∈ N) (hc : ob.cls ≠ .type "tuple") (r : NoTup N fp) : NoTup N (b :: fp) := fun x hx => by
  rcases List.mem_cons.mp hx with rfl | hx
  · exact ⟨_, hm, hc⟩
  · exact r x hx
theorem KeyIn.keep (x : KeyIn prog w N ks a) (n : News h₀ L h N) (k : Keep fp N N') (hf : NoTup N fp) : KeyIn prog w N' ks a := by
  refine x.mono fun ok hok => k _ hok fun hb => ?_
  obtain ⟨ob, h1, h2⟩ := hf _ hb
  exact x.ne_obj n h1 h2 rfl
theorem TabAt.keep (T : TabAt prog w N d o xs) (n : News h₀ L h N) (k : Keep fp N N') (hf : NoTup N fp) (hd : d ∉ fp) : TabAt prog w N' d o xs :=
  T.mono (k _ T.mem hd) fun x hx => (T.keys x hx).keep n k hf
theorem IsTab.noTup (T : IsTab prog w o xs) : o.cls ≠ .type "tuple" := by
  obtain ⟨_, _, hc, _⟩ := T
  rw [hc.1]; intro e; injection e with e; exact absurd e (by decide)
theorem IsTab.mk1 (T : IsTab prog w o xs) : (mk o).1 = 2 := by
  obtain ⟨es, ep, hc, hd, _⟩ := T
  unfold mk
  rw [hc.1, hd]
  rfl
theorem IsDictOf.mk1 {K : Type} [DecidableEq K] {knd : KeyKind prog w K} {kvs : List (K × Value)} (T : o.IsDictOf knd kvs) : (mk o).1 = 2 := by
  obtain ⟨es, ep, hc, hd, _⟩ := T
  unfold mk
  rw [hc.1, hd]
  rfl
end
theorem ne_mk1 {h₀ h : Heap} {L a b : Addr} {news : Led} {o o' : Obj} (N : News h₀ L h news) (h1 : (a, o) ∈ news) (h2 : (b, o') ∈ news) (hm : (mk o).1 ≠ (mk o').1) : a ≠ b :=
  ne_mk N h1 h2 fun e => hm (by rw [e])
theorem list_noTup {vs : Array Value} {n : Nat} : (listOf vs n).cls ≠ .type "tuple" := by
  show Value.type "list" ≠ _
  intro e; injection e with e; exact absurd e (by decide)

/-- a ledger that went on: what is not of fp stays, nothing goes -/
structure Step (fp : List Addr) (N N' : Led) : Prop where
  keep : Keep fp N N'
  has : ∀ q ∈ N, ∃ o, (q.1, o) ∈ N'
theorem Step.refl {fp : List Addr} {N : Led} : Step fp N N := ⟨Keep.refl, fun q h => ⟨q.2, h⟩⟩
theorem Step.trans {fp : List Addr} {N N' N'' : Led} (a : Step fp N N') (b : Step fp N' N'') : Step fp N N'' :=
  ⟨a.keep.trans b.keep, fun q h => let ⟨o, h1⟩ := a.has q h; b.has (q.1, o) h1⟩
theorem Step.wider {fp fp' : List Addr} {N N' : Led} (a : Step fp N N') (h : ∀ x ∈ fp, x ∈ fp') : Step fp' N N' := ⟨a.keep.wider h, a.has⟩
theorem step_front {a : Addr} {o : Obj} {N : Led} : Step [a] N ((a, o) :: off a N) := ⟨keep_front, fun q h => by
  by_cases e : q.1 = a
  · exact ⟨o, by rw [e]; exact .head _⟩
  · exact ⟨q.2, .tail _ (mem_off_of h e)⟩⟩
theorem step_cons {fp : List Addr} {p : Addr × Obj} {N : Led} : Step fp N (p :: N) := ⟨keep_cons, fun q h => ⟨q.2, .tail _ h⟩⟩
theorem Step.lt {fp : List Addr} {N N' : Led} (a : Step fp N N') {D : Addr} (h : ∀ p ∈ N', p.1 < D) : ∀ q ∈ N, q.1 < D := fun q hq => let ⟨o, h1⟩ := a.has q hq; h (q.1, o) h1
theorem Step.off {fp : List Addr} {N N' : Led} {a : Addr} (s : Step fp N N') (h : ∀ q ∈ N, q.1 ≠ a) : Step fp N (off a N') := ⟨fun q hq hn => mem_off_of (s.keep q hq hn) (h q hq), fun q hq => let ⟨o, h1⟩ := s.has q hq; ⟨o, mem_off_of h1 (h q hq)⟩⟩
/-- nothing but a is changed, and a is at the front -/
theorem step_set {fp : List Addr} {a : Addr} {o : Obj} {N N' : Led} (s : Step fp N N') : Step (a :: fp) N ((a, o) :: Mine.off a N') := (s.wider fun _ h => .tail _ h).trans (step_front.wider fun x hx => by rw [List.mem_singleton.mp hx]; exact .head _)
section
variable {prog : Program} {w : World} {h₀ h : Heap} {L d a b : Addr} {N N' : Led} {o ob : Obj} {xs : TL} {ks : List Int} {fp : List Addr}
theorem KeyIn.front (x : KeyIn prog w N ks a) (n : News h₀ L h N) (hm : (b, ob) ∈ N) (hc : ob.cls ≠ .type "tuple") {o : Obj} : KeyIn prog w ((b, o) :: Mine.off b N) ks a :=
  x.mono fun _ hok => .tail _ (mem_off_of hok (x.ne_obj n hm hc))
theorem TabAt.front (T : TabAt prog w N d o xs) (n : News h₀ L h N) : TabAt prog w ((d, o) :: Mine.off d N) d o xs :=
  T.mono (.head _) fun x hx => (T.keys x hx).front n T.mem T.tab.noTup
end
end
section
/-- a table of numbers with 0 for what is not there -/
def TimesObj (prog : Program) (w : World) (o : Obj) (n : Nat) (tms : Int → Int) : Prop := ∃ kvs, o.IsDictOf (intKind prog w) kvs ∧ kvs.length ≤ n ∧ ∀ k, (valueAt kvs k = none ∧ tms k = 0) ∨ ∃ t, valueAt kvs k = some (.int (tms k) t)
theorem valueAt_cons {K : Type} [DecidableEq K] {k y : K} {v : Value} {r : List (K × Value)} : valueAt ((k, v) :: r) y = if k = y then some v else valueAt r y := by
  unfold valueAt
  rw [List.find?_cons]
  by_cases h : k = y <;> simp [h]
theorem valueAt_app {K : Type} [DecidableEq K] {y : K} : ∀ {l r : List (K × Value)}, valueAt (l ++ r) y = (valueAt l y).or (valueAt r y)
  | [], _ => by simp [valueAt]
  | (k, v) :: l, r => by
    rw [List.cons_append, valueAt_cons, valueAt_cons, valueAt_app]
    by_cases h : k = y <;> simp [h]
theorem valueAt_any {K : Type} [DecidableEq K] {y : K} : ∀ {l : List (K × Value)}, (l.any fun kv => decide (kv.1 = y)) = (valueAt l y).isSome
  | [] => by simp [valueAt]
  | (k, v) :: l => by
    rw [List.any_cons, valueAt_cons, valueAt_any]
    by_cases h : k = y <;> simp [h]
theorem valueAt_put {K : Type} [DecidableEq K] {k y : K} {v : Value} : ∀ {l : List (K × Value)}, valueAt (l.map fun kv => if kv.1 = k then (kv.1, v) else kv) y = if y = k then (valueAt l k).map fun _ => v else valueAt l y
  | [] => by simp [valueAt]
  | (a, u) :: l => by
    rw [List.map_cons]
    by_cases ha : a = k
    · simp only [ha, if_true]
      rw [valueAt_cons, valueAt_cons, valueAt_cons, valueAt_put]
      by_cases hy : y = k
      · simp [hy]
      · simp [hy, Ne.symm hy]
    · simp only [ha, if_false]
      rw [valueAt_cons, valueAt_cons, valueAt_cons, valueAt_put]
      by_cases hy : y = k
      · subst hy; simp [ha]
      · simp [hy]
section
variable {K : Type} [DecidableEq K] {k y : K} {v : Value} {kvs : List (K × Value)}
theorem valueAt_stored_same : valueAt (stored kvs k v) k = some v := by
  unfold stored
  rw [valueAt_any]
  cases e : valueAt kvs k with
  | none => simp [valueAt_app, valueAt_cons, e]
  | some u => simp [valueAt_put, e]
theorem valueAt_stored_other (h : y ≠ k) : valueAt (stored kvs k v) y = valueAt kvs y := by
  unfold stored
  split
  · simp [valueAt_put, h]
  · rw [valueAt_app, valueAt_cons]; simp [Ne.symm h, valueAt]
end
section
variable {prog : Program} {w : World} {A : Around} {E : Value → Shared → Prop} {s : Shared} {h₀ : Heap} {L d a : Addr} {m : Str → Option Value} {news rest : Led} {o ok : Obj} {xs : TL} {ks : List Int} {tms : Int → Int} {n : Nat}
theorem TimesObj.mk1 (T : TimesObj prog w o n tms) : (mk o).1 = 2 := let ⟨_, h, _⟩ := T; IsDictOf.mk1 h
theorem TimesObj.noTup (T : TimesObj prog w o n tms) : o.cls ≠ .type "tuple" := by
  obtain ⟨_, ⟨_, _, hc, _⟩, _⟩ := T
  rw [hc.1]; intro e; injection e with e; exact absurd e (by decide)
theorem times_method {pl : Sem Bool} {Q : Value × List Value → Shared → Prop} (N : News h₀ L s.heap news) (hp : (d, o) ∈ news) (T : TimesObj prog w o n tms) (h : Q (.builtin "dict.get", [.ref d]) s) : wpAny (model prog w) A (getMethod (.ref d) "get" pl) Q E s :=
  let ⟨_, hd, _⟩ := T; kdg_method N hp hd h
theorem times_get {k : Int} {t u : Tok} {Q : Value → Shared → Prop} (N : News h₀ L s.heap news) (hp : (d, o) ∈ news) (T : TimesObj prog w o n tms) (lo : (d == sysModules) = false) (h : ∀ t tk, Q (.int (tms k) t) { s with toks := tk }) :
    wpAny (model prog w) A (call (.builtin "dict.get") [.ref d, .int k t, .int 0 u]) Q E s := by
  obtain ⟨kvs, hd, _, hv⟩ := T
  refine kdg_get2 N hp hd lo (intKind_is _ _ _ _) _ rfl ?_
  rcases hv k with ⟨e, e2⟩ | ⟨t, e⟩
  · rw [e]; have := h u (s.toks + 1); rw [e2] at this; exact this
  · rw [e]; exact h t _
theorem times_set {k v : Int} {t u : Tok} {Q : Unit → Shared → Prop} (F : Fr h₀ L s.heap m) (N : News h₀ L s.heap ((d, o) :: rest)) (off : ∀ p ∈ rest, p.1 ≠ d) (T : TimesObj prog w o n tms) (hn : n ≤ 100000)
    (h : ∀ h' o' tk, Fr h₀ L h' m → News h₀ L h' ((d, o') :: rest) → TimesObj prog w o' (n + 1) (fun y => if y = k then v else tms y) → Q () { s with heap := h', toks := tk }) :
    wpAny (model prog w) A (setItem (.ref d) (.int k t) (.int v u)) Q E s := by
  obtain ⟨kvs, hd, hl, hv⟩ := T
  refine kda_set F N (.head off) hd (intKind_is _ _ _ _) (by rw [sizeLine_eq]; omega) fun h' o' F' N' hd' => h h' o' _ F' N' ⟨_, hd', by have := stored_length_le kvs k (.int v u); omega, fun y => ?_⟩
  by_cases hy : y = k
  · subst hy
    simp only [if_true]
    exact .inr ⟨u, valueAt_stored_same⟩
  · simp only [if_neg hy]
    rw [valueAt_stored_other hy]
    exact hv y
theorem tab_method {name : Str} {id : String} {pl : Sem Bool} {Q : Value × List Value → Shared → Prop} (slot : Slot "dict" name id) (hty : typeOf (.builtin id) = pure (.type "method_descriptor")) (N : News h₀ L s.heap news) (T : TabAt prog w news d o xs) (h : Q (.builtin id, [.ref d]) s) :
    wpAny (model prog w) A (getMethod (.ref d) name pl) Q E s :=
  have hd := T.dict N
  getMethod_builtin hd.typeIs PySem.F.plainAttrs_dict slot hty (dictOfH_noDict hd) h
theorem storeC {M : Model} {cn : Str} {cs : Scope} {ccd v : Value} {cl : List (Str × Addr)} {f c : Addr} {x : Str} {v₀ : Option Value} {Q : Unit → Shared → Prop} (F : Fr h₀ L s.heap m) (N : News h₀ L s.heap news) (hc : cl.lookup x = some c) (hm : (c, o) ∈ news) (hd : o.data = .cell v₀)
    (h : ∀ h' o', Fr h₀ L h' m → News h₀ L h' ((c, o') :: off c news) → o'.data = .cell (some v) → Q () { s with heap := h' })
    (hk : cs.kind = .function) (hx : (envX cn cs L f ccd cl).kindOf x = some .cell) : wpAny M A (storeName (envX cn cs L f ccd cl) x v) Q E s :=
  storeX_C F (front N hm) hc (.head off_ne) hd h hk hx
end

section
variable {dp un : Nat} {gd : Option (List Code)} {cn : Str} {cs : Scope} {L a : Addr} {ccd : Value} {cl : List (Str × Addr)} {outer : List Env}
theorem units1 (h : un ≤ 800) : (ktrTop dp un gd cn cs L a ccd cl outer).units + 1 < cLine := by
  show un + 1 < cLine
  rw [cLine_is]; omega
theorem units64 (h : un ≤ 800) : (ktrTop dp un gd cn cs L a ccd cl outer).units + 64 < cLine := by
  show un + 64 < cLine
  rw [cLine_is]; omega
theorem units0 (h : un ≤ 800) : (ktrTop dp un gd cn cs L a ccd cl outer).units < cLine := by
  show un < cLine
  rw [cLine_is]; omega
end
end
section
/-- what stands when a ground's variables are asked for -/
structure FI (w : World) (tms : Int → Int) (g dg st ou kn lf : Addr) (vlen : Nat) (N : Led) (ups : List Up) (kx : List Kn) (lx : List En) : Prop where
  gr : GrAt w.params N g dg st ou
  li : LiAt N ou (refs ups)
  ops : Ops w.params N g ups
  kt : ∃ o, TabAt prog w N kn o (knTab kx)
  lt : ∃ o, TabAt prog w N lf o (lfTab lx)
  ins : ∀ k ∈ kx, InstIn N k.u k.d
  las : ∀ e ∈ lx, LiAt N e.la e.c.toList
  sorted : ups.Pairwise (fun x y => y.ix < x.ix)
  rng : ∀ x ∈ ups, 0 ≤ x.ix ∧ x.ix < vlen
  vl : vlen ≤ 60
  kl : kx.length ≤ 1000
  ll : lx.length ≤ 1000
  r1 : ∀ x ∈ ups, ∃ k ∈ kx, k.p = x.ix ∧ k.t = tms x.ix ∧ k.u = x.u ∧ k.d = x.d
  r2 : (kx.map (·.u)).Nodup
  r3 : ∀ k ∈ kx, k.t = tms k.p → ∃ x ∈ ups, x.ix = k.p ∧ x.u = k.u ∧ x.d = k.d
  a1 : kn ≠ lf
  a2 : dg ≠ kn ∧ dg ≠ lf
  a3 : ∀ k ∈ kx, k.d ≠ kn ∧ k.d ≠ lf
  a4 : ∀ e ∈ lx, e.la ≠ ou
theorem FI.next {w : World} {tms : Int → Int} {h₀ h : Heap} {L g dg st ou kn lf : Addr} {vlen : Nat} {N N' : Led} {ups ups' : List Up} {kx ke : List Kn} {lx le : List En} (I : FI w tms g dg st ou kn lf vlen N ups kx lx) (n : News h₀ L h N) (K : Keep [ou, kn, lf] N N')
    (li : LiAt N' ou (refs ups')) (ops : ∀ x ∈ ups', x ∈ ups ∨ UpAt w.params N' x.u x.d (.ref g) x.ix .none) (kt : ∃ o, (kn, o) ∈ N' ∧ IsTab prog w o (knTab (kx ++ ke))) (lt : ∃ o, (lf, o) ∈ N' ∧ IsTab prog w o (lfTab (lx ++ le)))
    (hke : ∀ k ∈ ke, InstIn N' k.u k.d ∧ KeyIn prog w N' k.key k.ka ∧ k.d ≠ kn ∧ k.d ≠ lf) (hle : ∀ e ∈ le, LiAt N' e.la e.c.toList ∧ KeyIn prog w N' e.key e.ka ∧ e.la ≠ ou)
    (sorted : ups'.Pairwise (fun x y => y.ix < x.ix)) (rng : ∀ x ∈ ups', 0 ≤ x.ix ∧ x.ix < vlen) (kl : (kx ++ ke).length ≤ 1000) (ll : (lx ++ le).length ≤ 1000)
    (r1 : ∀ x ∈ ups', ∃ k ∈ kx ++ ke, k.p = x.ix ∧ k.t = tms x.ix ∧ k.u = x.u ∧ k.d = x.d) (r2 : ((kx ++ ke).map (·.u)).Nodup) (r3 : ∀ k ∈ kx ++ ke, k.t = tms k.p → ∃ x ∈ ups', x.ix = k.p ∧ x.u = k.u ∧ x.d = k.d) :
    FI w tms g dg st ou kn lf vlen N' ups' (kx ++ ke) (lx ++ le) := by
  obtain ⟨nou, hou⟩ := I.li
  obtain ⟨ok, Tk⟩ := I.kt
  obtain ⟨ol, Tl⟩ := I.lt
  have nt : NoTup N [ou, kn, lf] := .cons hou list_noTup (.cons Tk.mem Tk.tab.noTup (.cons Tl.mem Tl.tab.noTup .nil))
  have mv : ∀ {b : Addr} {ob : Obj}, (b, ob) ∈ N → b ≠ ou → b ≠ kn → b ≠ lf → (b, ob) ∈ N' := fun hb h1 h2 h3 => K _ hb (by simp only [List.mem_cons, List.not_mem_nil, or_false, not_or]; exact ⟨h1, h2, h3⟩)
  have hi : ∀ {b : Addr} {C d : Addr}, (b, instObj C d) ∈ N → (b, instObj C d) ∈ N' := fun hb =>
    mv hb (ne_mk1 n hb hou (by rw [mk_inst, mk_list]; exact (by decide : (3 : Nat) ≠ 1))) (ne_mk1 n hb Tk.mem (by rw [mk_inst, Tk.tab.mk1]; exact (by decide : (3 : Nat) ≠ 2))) (ne_mk1 n hb Tl.mem (by rw [mk_inst, Tl.tab.mk1]; exact (by decide : (3 : Nat) ≠ 2)))
  have hdct : ∀ {d : Addr} {P : Params} {τ : UT} {th v : Value} {ix : Int} {c : Nat}, (d, dictOf (upEs P τ th ix v) c) ∈ N → d ≠ kn → d ≠ lf → (d, dictOf (upEs P τ th ix v) c) ∈ N' := fun hb h2 h3 =>
    mv hb (ne_mk1 n hb hou (by rw [mk_up, mk_list]; decide)) h2 h3
  have hins : ∀ k ∈ kx, InstIn N' k.u k.d := fun k hk => by
    obtain ⟨h1, P, τ, th, ix, v, c, h2⟩ := I.ins k hk
    exact ⟨hi h1, P, τ, th, ix, v, c, hdct h2 (I.a3 k hk).1 (I.a3 k hk).2⟩
  obtain ⟨o1, hk1, hk2⟩ := kt
  obtain ⟨o2, hl1, hl2⟩ := lt
  refine ⟨?_, li, fun x hx => ?_, ⟨o1, Tk.lo, hk1, hk2, fun x hx => ?_⟩, ⟨o2, Tl.lo, hl1, hl2, fun x hx => ?_⟩, fun k hk => ?_, fun e he => ?_, sorted, rng, I.vl, kl, ll, r1, r2, r3, I.a1, I.a2, fun k hk => ?_, fun e he => ?_⟩
  · obtain ⟨h1, τ, c, h2⟩ := I.gr
    exact ⟨hi h1, τ, c, mv h2 (ne_mk1 n h2 hou (by rw [mk_gr, mk_list]; decide)) I.a2.1 I.a2.2⟩
  · rcases ops x hx with hx | hx
    · obtain ⟨h1, τ, c, h2⟩ := I.ops x hx
      obtain ⟨k, hk, _, _, _, e⟩ := I.r1 x hx
      exact ⟨hi h1, τ, c, hdct h2 (e ▸ (I.a3 k hk).1) (e ▸ (I.a3 k hk).2)⟩
    · exact hx
  · obtain ⟨k, hk, rfl⟩ := List.mem_map.mp hx
    rcases List.mem_append.mp hk with hk | hk
    · exact (Tk.keys _ (List.mem_map_of_mem hk)).keep n K nt
    · exact (hke k hk).2.1
  · obtain ⟨k, hk, rfl⟩ := List.mem_map.mp hx
    rcases List.mem_append.mp hk with hk | hk
    · exact (Tl.keys _ (List.mem_map_of_mem hk)).keep n K nt
    · exact (hle k hk).2.1
  · rcases List.mem_append.mp hk with hk | hk
    · exact hins k hk
    · exact (hke k hk).1
  · rcases List.mem_append.mp he with he | he
    · obtain ⟨c, h1⟩ := I.las e he
      exact ⟨c, mv h1 (I.a4 e he) (ne_mk1 n h1 Tk.mem (by rw [mk_list, Tk.tab.mk1]; decide)) (ne_mk1 n h1 Tl.mem (by rw [mk_list, Tl.tab.mk1]; decide))⟩
    · exact (hle e he).1
  · rcases List.mem_append.mp hk with hk | hk
    · exact I.a3 k hk
    · exact (hke k hk).2.2
  · rcases List.mem_append.mp he with he | he
    · exact I.a4 e he
    · exact (hle e he).2.2
abbrev fMap (g kn lf tm pl : Addr) : Str → Option Value := fun y => if y = Str.ofString "places" then some (.ref pl) else if y = Str.ofString "times" then some (.ref tm) else if y = Str.ofString "life" then some (.ref lf) else if y = Str.ofString "known" then some (.ref kn) else if y = Str.ofString "ground" then some (.ref g) else none
abbrev fMap2 (kv pv : Option Value) (g kn lf tm pl : Addr) : Str → Option Value := fun y => if y = Str.ofString "key" then kv else if y = Str.ofString "place" then pv else fMap g kn lf tm pl y
theorem fMap2_set {kv pv : Option Value} {k p : Value} {g kn lf tm pl : Addr} : (fun y => if y = Str.ofString "key" then some k else if y = Str.ofString "place" then some p else fMap2 kv pv g kn lf tm pl y) = fMap2 (some k) (some p) g kn lf tm pl := by
  funext y
  by_cases h1 : y = Str.ofString "key"
  · subst h1; rfl
  · by_cases h2 : y = Str.ofString "place"
    · subst h2; simp only [fMap2, if_neg h1, if_true]
    · simp only [fMap2, if_neg h1, if_neg h2]
theorem fMap2_none {g kn lf tm pl : Addr} : fMap g kn lf tm pl = fMap2 none none g kn lf tm pl := by
  funext y
  by_cases h1 : y = Str.ofString "key"
  · subst h1; simp only [fMap2, if_true]; rfl
  · by_cases h2 : y = Str.ofString "place"
    · subst h2; simp only [fMap2, if_neg h1, if_true]; rfl
    · simp only [fMap2, if_neg h1, if_neg h2]
/-- what asking for places makes of the lists of entries -/
structure FNew (tms : Int → Int) (news : Led) (places : List Value) (i : Nat) (kx : List Kn) (lx : List En) (ke : List Kn) (le : List En) : Prop where
  k : ∀ k ∈ ke, k.t = tms k.p ∧ (∃ t, Value.int k.p t ∈ places) ∧ ∀ q ∈ news, q.1 < k.d ∧ q.1 < k.u
  l : ∀ e ∈ le, e.c = none ∧ e.t = tms e.p ∧ (∃ t, Value.int e.p t ∈ places) ∧ ∀ q ∈ news, q.1 < e.la
  has : ∀ j < i, ∀ p t, places[j]? = some (Value.int p t) → (∃ k ∈ kx ++ ke, k.key = [p, tms p]) ∧ ∃ e ∈ lx ++ le, e.key = [p, tms p]
/-- between two turns of the loop over the places -/
inductive FJ (w : World) (tms : Int → Int) (g dg st ou kn lf tm pl c1 : Addr) (vlen : Nat) (news : Led) (places : List Value) (ups₀ : List Up) (kx : List Kn) (lx : List En) (i : Nat) (m₁ : Str → Option Value) (n₁ : Led) : Prop
  | mk (kv pv : Option Value) (oc : Obj) (ov : Option Value) (N1 : Led) (ups : List Up) (ke : List Kn) (le : List En) (h1 : m₁ = fMap2 kv pv g kn lf tm pl) (h2 : n₁ = (c1, oc) :: N1) (h3 : oc.data = .cell ov) (h4 : ∀ q ∈ N1, q.1 ≠ c1)
      (h5 : FI w tms g dg st ou kn lf vlen N1 ups (kx ++ ke) (lx ++ le)) (h6 : ke.length ≤ i) (h7 : le.length ≤ i) (h8 : Step [ou, kn, lf] news N1) (h9 : ∀ x ∈ ups₀, x ∈ ups) (h10 : FNew tms news places i kx lx ke le) : FJ w tms g dg st ou kn lf tm pl c1 vlen news places ups₀ kx lx i m₁ n₁
theorem FNew.next {tms : Int → Int} {news : Led} {places : List Value} {i : Nat} {kx ke ke' : List Kn} {lx le le' : List En} {p : Int} {t : Tok} (f : FNew tms news places i kx lx ke le) (hp : places[i]? = some (.int p t))
    (hk : ∀ k ∈ ke', k.key = [p, tms p] ∧ ∀ q ∈ news, q.1 < k.d ∧ q.1 < k.u) (hl : ∀ e ∈ le', e.c = none ∧ e.key = [p, tms p] ∧ ∀ q ∈ news, q.1 < e.la)
    (h1 : ∃ k ∈ (kx ++ ke) ++ ke', k.key = [p, tms p]) (h2 : ∃ e ∈ (lx ++ le) ++ le', e.key = [p, tms p]) : FNew tms news places (i + 1) kx lx (ke ++ ke') (le ++ le') where
  k := fun k hk' => by
    rcases List.mem_append.mp hk' with h | h
    · exact f.k k h
    · obtain ⟨e, r⟩ := hk k h
      injection e with e1 e2; injection e2 with e2 _
      exact ⟨by rw [e2, e1], ⟨t, e1 ▸ List.mem_of_getElem? hp⟩, r⟩
  l := fun k hk' => by
    rcases List.mem_append.mp hk' with h | h
    · exact f.l k h
    · obtain ⟨c, e, r⟩ := hl k h
      injection e with e1 e2; injection e2 with e2 _
      exact ⟨c, by rw [e2, e1], ⟨t, e1 ▸ List.mem_of_getElem? hp⟩, r⟩
  has := fun j hj p' t' hp' => by
    rw [← List.append_assoc, ← List.append_assoc]
    rcases Nat.lt_or_ge j i with h | h
    · obtain ⟨⟨k, a, b⟩, e, c, d⟩ := f.has j h p' t' hp'
      exact ⟨⟨k, List.mem_append_left _ a, b⟩, e, List.mem_append_left _ c, d⟩
    · obtain rfl : j = i := by omega
      rw [hp] at hp'; cases hp'
      exact ⟨h1, h2⟩
theorem found_end {w : World} {tms : Int → Int} {g' h h' : Heap} {L' L1 g dg st ou kn lf tm pl c1 I₀ D1 : Addr} {vlen n i tk : Nat} {news N1 NF : Led} {places : List Value} {ups₀ ups ups' : List Up} {kx ke ke' : List Kn} {lx le le' : List En} {oI oc : Obj} {ov kv pv : Option Value} {s₁ : Shared} {pi : Int} {pt : Tok} {Qf : Flow → Shared → Prop}
    (F : Fr g' L' h' (fMap2 kv pv g kn lf tm pl)) (N : News g' L' h' NF)
    (I : FI w tms g dg st ou kn lf vlen N1 ups (kx ++ ke) (lx ++ le)) (n1 : News g' L1 h N1) (nc : ∀ q ∈ N1, q.1 ≠ c1) (nI : ∀ q ∈ N1, q.1 ≠ I₀) (cI : c1 ≠ I₀) (hke : ke.length ≤ i) (hle : le.length ≤ i) (S0 : Step [ou, kn, lf] news N1) (hups : ∀ x ∈ ups₀, x ∈ ups) (f : FNew tms news places i kx lx ke le) (hv : places[i]? = some (.int pi pt)) (hkl : kx.length ≤ 500) (hll : lx.length ≤ 500) (hi : i < 100)
    (hpl : (pl, listOf places.toArray n) ∈ N1) (hpl2 : pl ∉ [ou, kn, lf])
    (S : Step [ou, kn, lf] N1 NF) (mI : (I₀, oI) ∈ NF) (mc : (c1, oc) ∈ NF) (dc : oc.data = .cell ov)
    (hou : ∃ c, (ou, listOf (refs ups').toArray c) ∈ NF) (hups' : ∀ x ∈ ups, x ∈ ups') (ops : ∀ x ∈ ups', x ∈ ups ∨ UpAt w.params NF x.u x.d (.ref g) x.ix .none ∧ x.u ≠ c1 ∧ x.d ≠ c1 ∧ x.u ≠ I₀ ∧ x.d ≠ I₀)
    (kt : ∃ o, (kn, o) ∈ NF ∧ IsTab prog w o (knTab ((kx ++ ke) ++ ke'))) (lt : ∃ o, (lf, o) ∈ NF ∧ IsTab prog w o (lfTab ((lx ++ le) ++ le'))) (kc : KeyIn prog w NF [pi, tms pi] D1) (D1c : D1 ≠ c1 ∧ D1 ≠ I₀)
    (k' : ke'.length ≤ 1 ∧ ∀ k ∈ ke', k.key = [pi, tms pi] ∧ (∀ q ∈ news, q.1 < k.d ∧ q.1 < k.u) ∧ k.ka = D1 ∧ ∃ x ∈ ups', x.u = k.u ∧ x.d = k.d ∧ x ∉ ups ∧ k.d ≠ kn ∧ k.d ≠ lf)
    (l' : le'.length ≤ 1 ∧ ∀ e ∈ le', e.c = none ∧ e.key = [pi, tms pi] ∧ (∀ q ∈ news, q.1 < e.la) ∧ e.ka = D1 ∧ LiAt NF e.la [] ∧ e.la ≠ c1 ∧ e.la ≠ I₀ ∧ e.la ≠ ou)
    (h1 : ∃ k ∈ (kx ++ ke) ++ ke', k.key = [pi, tms pi]) (h2 : ∃ e ∈ (lx ++ le) ++ le', e.key = [pi, tms pi])
    (sorted : ups'.Pairwise (fun x y => y.ix < x.ix)) (rng : ∀ x ∈ ups', 0 ≤ x.ix ∧ x.ix < vlen)
    (r1 : ∀ x ∈ ups', ∃ k ∈ (kx ++ ke) ++ ke', k.p = x.ix ∧ k.t = tms x.ix ∧ k.u = x.u ∧ k.d = x.d) (r2 : (((kx ++ ke) ++ ke').map (·.u)).Nodup) (r3 : ∀ k ∈ (kx ++ ke) ++ ke', k.t = tms k.p → ∃ x ∈ ups', x.ix = k.p ∧ x.u = k.u ∧ x.d = k.d)
    : TurnE g' L' s₁ I₀ oI [(pl, listOf places.toArray n)] (FJ w tms g dg st ou kn lf tm pl c1 vlen news places ups₀ kx lx (i + 1)) Qf .next { s₁ with heap := h', toks := tk } := by
  have S2 : Step [ou, kn, lf] N1 (off I₀ (off c1 NF)) := (S.off nc).off nI
  have up : ∀ {b : Addr} {ob : Obj}, (b, ob) ∈ NF → b ≠ c1 → b ≠ I₀ → (b, ob) ∈ off I₀ (off c1 NF) := fun hb a c => mem_off_of (mem_off_of hb a) c
  obtain ⟨nou, hou1⟩ := I.li
  obtain ⟨okn, TK⟩ := I.kt
  obtain ⟨olf, TL⟩ := I.lt
  refine turnE (news' := (c1, oc) :: off I₀ (off c1 NF)) F N ?_ ?_ ?_ ⟨kv, pv, oc, ov, _, ups', ke ++ ke', le ++ le', rfl, rfl, dc, fun q hq => (mem_off.mp (off_sub _ hq)).2, ?_, ?_, ?_, S0.trans S2, fun x hx => hups' x (hups x hx), ?_⟩
  · intro p hp
    rcases List.mem_cons.mp hp with rfl | hp
    · exact mI
    · rcases List.mem_cons.mp hp with rfl | hp
      · exact mc
      · exact off_sub _ (off_sub _ hp)
  · intro p hp
    rw [List.mem_singleton.mp hp]
    exact .tail _ (S2.keep _ hpl hpl2)
  · intro p hp
    rcases List.mem_cons.mp hp with rfl | hp
    · exact cI
    · exact off_ne p hp
  · rw [← List.append_assoc, ← List.append_assoc]
    refine I.next n1 S2.keep ?_ ?_ ?_ ?_ ?_ ?_ sorted rng ?_ ?_ r1 r2 r3
    · obtain ⟨c, h⟩ := hou; exact ⟨c, up h (nc _ hou1) (nI _ hou1)⟩
    · intro x hx
      rcases ops x hx with h | ⟨⟨h, τ, c, h'⟩, a, b, c', d⟩
      · exact .inl h
      · exact .inr ⟨up h a c', τ, c, up h' b d⟩
    · obtain ⟨o, a, b⟩ := kt; exact ⟨o, up a (nc _ TK.mem) (nI _ TK.mem), b⟩
    · obtain ⟨o, a, b⟩ := lt; exact ⟨o, up a (nc _ TL.mem) (nI _ TL.mem), b⟩
    · intro k hk
      obtain ⟨e1, _, e2, x, hx, e3, e4, e5, a, b⟩ := k'.2 k hk
      rcases ops x hx with h | ⟨h, a1, a2, a3, a4⟩
      · exact absurd h e5
      · refine ⟨?_, ?_, a, b⟩
        · rw [← e3, ← e4]; exact h.inst.mono (fun o ho => up ho a1 a3) fun o ho => up ho a2 a4
        · rw [e1, e2]; exact kc.mono fun o ho => up ho D1c.1 D1c.2
    · intro e he
      obtain ⟨a0, a1, _, a2, ⟨c, a3⟩, a4, a5, a6⟩ := l'.2 e he
      refine ⟨⟨c, ?_⟩, ?_, a6⟩
      · rw [a0]; exact up a3 a4 a5
      · rw [a1, a2]; exact kc.mono fun o ho => up ho D1c.1 D1c.2
    · have := k'.1; simp only [List.length_append] at *; omega
    · have := l'.1; simp only [List.length_append] at *; omega
  · have := k'.1; rw [List.length_append]; omega
  · have := l'.1; rw [List.length_append]; omega
  · exact f.next hv (fun k hk => let ⟨a, b, _⟩ := k'.2 k hk; ⟨a, b⟩) (fun e he => let ⟨a, b, c, _⟩ := l'.2 e he; ⟨a, b, c⟩) h1 h2
end
local macro_rules | `(tactic| walk_at "pyIter ref") => `(tactic| ((first | (with_reducible show wpAny _ _ (pyIter (Value.ref _)) (fun it s₂ => CompAt_T _ _ _ _ _ _ _ _ _ _ _ _ _ it s₂) _ _) | (with_reducible show wpAny _ _ (pyIter (Value.ref _)) (fun it s₂ => CompAt _ _ _ _ _ _ _ _ _ _ _ _ it s₂) _ _)); refine stop ?_))
local macro_rules | `(tactic| k_mem) => `(tactic| first | assumption | exact List.Mem.head _ | (refine' mem_off_of ?hm ?hn; (case hn => first | assumption | exact Ne.symm (by assumption)); (case hm => k_mem)) | (refine List.Mem.tail _ ?_; k_mem))
section
theorem lay_MFound : True := by
  k_with_none
  k_with "execs cons" => ((first | (with_reducible show wpAny _ _ (execs _ _) (CutR _) _ _) | (refine cutQ ?_; intro cutR cutH)); refine wpAny_execs_cons ?_; refine cutQ ?_; intro cutR cutH)
  k_with "CutR" => ((first | (refine Cut.go cutH _ _ ?_; (try clear cutH); (try clear cutR)) | refine Cut.go (by assumption) _ _ ?_); (try dsimp only))
  k_with "exec While" => refine stop ?_
  k_with "Back" => refine stop ?_
  k_with "WhileStep" => refine stop ?_
  k_with "call builtin:len" => (k_here; (with_reducible show wpAny _ _ (call (Value.builtin "len") [Value.ref _]) _ _ _); k_dflt (refine' len_L (by k_asm) (by k_mem) (by first | exact List.length_map _ | exact rfl) (by omega) ?_); intro _ _)
  k_with "subscriptTail" => (k_here; (with_reducible show wpAny _ _ (subscriptTail _ _ (Value.ref _) (Value.int _ _)) _ _ _); k_dflt (refine' item_L (by k_asm) (by k_mem) (by first | exact at_refs (by assumption) | assumption | exact rfl) (by omega) ?_ (by with_unfolding_all rfl)))
  k_with "call builtin:list.insert" => (k_here; (with_reducible show wpAny _ _ (call (Value.builtin _) [Value.ref _, Value.int _ _, _]) _ _ _); k_dflt (refine' insert_L (by k_asm) (by k_asm) ?_ ?_ (by k_upd) ?_; (first | assumption | (simp only [List.length_map]; first | assumption | omega)); (simp only [List.length_map]; omega)); intro _ _ _; (try k_sweep))
  k_with "call builtin:list.pop" => (k_here; (with_reducible show wpAny _ _ (call (Value.builtin _) [Value.ref _, Value.int _ _]) _ _ _); k_dflt (refine' pop0_L (by k_asm) (by k_asm) ?_ (by k_upd) ?_; (simp only [List.length_map]; omega)); intro _ _ _; (try k_sweep))
  k_with "call builtin:list.append" => (k_here; (with_reducible show wpAny _ _ (call (Value.builtin _) [Value.ref _, _]) _ _ _); k_dflt (refine' append_L (by k_asm) (by k_asm) ?_ (by k_upd) ?_; (first | omega | (simp only [List.length_map]; omega) | (simp; omega))); intro _ _ _; (try k_sweep))
  k_with "setAttr ref" => (k_here; k_dflt (refine' set_dict (by k_asm) (by k_asm) (by k_asm) (by k_inst) (by exact rfl) (by k_is) (by k_is) (by k_is) (by k_is) (by k_get) (by first | exact put_value | exact put_thread | exact put_index) (by k_upd) (by exact Nat.le_of_ble_eq_true rfl) ?_; k_whole; intro _ _ _; (try k_sweep)))
  k_with "setItem ref int" => (k_here; (with_reducible show wpAny _ _ (setItem (Value.ref _) (Value.int _ _) _) _ _ _); k_dflt (refine' set_L (by k_asm) (by k_asm) (by k_upd) (by first | assumption | omega | (constructor <;> omega)) (by first | omega | (simp only [List.length_map]; omega)) ?_); intro _ _ _; (try k_sweep))
  k_with "exec For Name Attribute cons nil" => refine stop ?_
  k_with "exec For Name Name cons nil" => refine stop ?_
  k_with "TurnE" => refine stop ?_
  k_with "eval ListComp" => refine stop ?_
  k_with "exec Assign cons ListComp" => refine stop ?_
  k_with "CTurn" => refine stop ?_
  k_with "FinE" => refine stop ?_
  k_with "FinA" => refine stop ?_
  k_with "getMethod ref" => (k_here; (with_reducible show wpAny _ _ (getMethod (Value.ref _) (Str.ofString "get") _) _ _ _); k_dflt (refine' times_method (by k_asm) (by k_mem) (by k_asm) ?_))
  k_with "getMethod ref" => (k_here; (with_reducible show wpAny _ _ (getMethod (Value.ref _) (Str.ofString "setdefault") _) _ _ _); k_dflt (refine' tab_method PySem.F.slot_dict_setdefault PySem.F.type_dict_setdefault (by k_asm) (by k_asm) ?_))
  k_with "getMethod ref" => (k_here; (with_reducible show wpAny _ _ (getMethod (Value.ref _) (Str.ofString "values") _) _ _ _); k_dflt (refine' tab_method PySem.F.slot_dict_values PySem.F.type_dict_values (by k_asm) (by k_asm) ?_))
  k_with "call builtin:dict.get" => (k_here; k_dflt (refine' times_get (by k_asm) (by k_mem) (by k_asm) (by k_asm) ?_); intro _ _)
  k_with "call builtin:dict.setdefault" => refine stop ?_
  k_with "storeName" => (k_here; k_dflt (refine' storeC (by k_asm) (by k_asm) (by rfl) (by k_mem) (by k_asm) ?_ (by rfl) (by rfl)); refine stop ?_)
  k_with "setItem ref ref" => refine stop ?_
  k_with "compareOp NotEq ref ref" => refine stop ?_
  k_with "compareOp Eq ref ref" => refine stop ?_
  k_with "compareOp In ref ref" => (k_here; k_dflt (refine' in_T (by exact units1 (by omega)) (by k_asm) (by k_asm) (by k_asm) (by first | k_asm | exact rfl) ?_); intro _)
  k_with "subscriptTail" => (k_here; (with_reducible show wpAny _ _ (subscriptTail _ _ (Value.ref _) (Value.ref _)) _ _ _); k_dflt (refine' item_T (by exact units1 (by omega)) (by k_asm) (by k_asm) (by k_asm) (by k_asm) ?_ (by with_unfolding_all rfl) (by intro _; with_unfolding_all rfl)); intro _; (try dsimp only))
  k_with "call builtin:dict.values" => (k_here; k_dflt (refine' values_T (by k_asm) (by k_asm) (by k_asm) ?_); intro _ _ _ _ _)
  k_with "CTurnC" => refine stop ?_
  k_with "call builtin:sorted" => refine stop ?_
  k_with "subscriptTail Name Slice ref ref" => refine stop ?_
  trivial
--@hide
theorem lay_MFound1 : True := by
  k_with "call ref" => ((with_reducible show wpAny _ _ (call (Value.ref 132) _) _ _ _); refine stop ?_)
  trivial
section
variable {w : World} {loose : List Str} {mean : ExcName → Option Value} {mg mb : Str → Option Value} {dp un : Nat} {gd : Option (List Code)} {cn : Str} {cs : Scope} {a : Addr} {ccd : Value} {cl : List (Str × Addr)} {outer : List Env} {A₀ : Around} {base h₀ : Heap} {L : Addr} {m : Str → Option Value} {s : Shared} {Q E : Value → Shared → Prop} {news : Led}
theorem found_spec {tms : Int → Int} {g dg st ou kn lf tm pl : Addr} {vlen n : Nat} {places : List Value} {ups : List Up} {kx : List Kn} {lx : List En} {ot : Obj} {nt : Nat}
    (B : Below A₀ base outer h₀) (F : Fr h₀ L s.heap m) (X : (Mine.Hd.top.heap_1 w.params).In h₀) (N : News h₀ L s.heap news) (T : Top VW loose mean mg mb h₀) (hk : cs.kind = .function) (hd : dp ≤ 440) (hu : un ≤ 400)
    (hpl : (pl, listOf places.toArray n) ∈ news) (hplou : pl ≠ ou) (hplen : places.length ≤ 100) (I : FI w tms g dg st ou kn lf vlen news ups kx lx)
    (hkl : kx.length ≤ 500) (hll : lx.length ≤ 500) (hpi : ∀ v ∈ places, ∃ i t, v = .int i t ∧ 0 ≤ i ∧ i < vlen)
    (htm : (tm, ot) ∈ news) (htd : TimesObj prog w ot nt tms) (htlo : (tm == sysModules) = false) (ht1 : tm ≠ kn) (ht2 : tm ≠ lf)
    (post : ∀ ups' ke le N' h' tk', FI w tms g dg st ou kn lf vlen N' ups' (kx ++ ke) (lx ++ le) → Step [ou, kn, lf] news N' → (∀ x ∈ ups, x ∈ ups') → FNew tms news places places.length kx lx ke le → ke.length ≤ places.length → le.length ≤ places.length →
      Fr h₀ L h' m → News h₀ L h' N' → Q (.bool true) { s with heap := h', toks := tk' }) :
    wpAny (model prog w) (ktrTop dp un gd cn cs L a ccd cl outer) (call (.ref 165) [.ref g, .ref kn, .ref lf, .ref tm, .ref pl]) Q E s := by
  refine enterC (f := 165) (binds := [(Str.ofString "ground", .ref g), (Str.ofString "known", .ref kn), (Str.ofString "life", .ref lf), (Str.ofString "times", .ref tm), (Str.ofString "places", .ref pl)]) B F X N T hk (by omega) (by k_is) (by k_is) (by rfl) (by rfl) (by decide +kernel) (by rfl) (by rfl) (by rfl) ?_
  clear F N
  intro g' L' h₁ tk cells F N Y B' X' T' l1
  k_cells Y
  simp only [List.cons_append, List.nil_append] at N
  rename_i oc dc
  replace dc : oc.data = .cell none := dc
  replace F : Fr g' L' h₁ (fMap g kn lf tm pl) := F
  k_steps
  refine go (For_invV g' (by exact rfl) (by exact rfl) ?_)
  k_steps
  have npl : ∀ q ∈ news, q.1 ≠ L' + 1 := fun q hq => Nat.ne_of_lt (Nat.lt_succ_of_lt (l1 q hq))
  refine hide fun gP gQ => ?_
  obtain ⟨nou0, hou0⟩ := I.li
  have n0 : News g' _ _ news := sub N fun q hq => .tail _ hq
  obtain ⟨okn0, TK0⟩ := I.kt
  obtain ⟨olf0, TL0⟩ := I.lt
  refine gQ ?_
  clear gQ gP
  have tm_ou : tm ≠ ou := ne_mk1 n0 htm hou0 (by rw [htd.mk1, mk_list]; decide)
  have pl_kn : pl ≠ kn := ne_mk1 n0 hpl TK0.mem (by rw [TK0.tab.mk1, mk_list]; decide)
  have pl_lf : pl ≠ lf := ne_mk1 n0 hpl TL0.mem (by rw [TL0.tab.mk1, mk_list]; decide)
  have hpl2 : pl ∉ [ou, kn, lf] := by simp only [List.mem_cons, List.not_mem_nil, or_false, not_or]; exact ⟨hplou, pl_kn, pl_lf⟩
  refine go (for_L (FJ w tms g dg st ou kn lf tm pl (L' + 1) vlen news places ups kx lx) rfl (by assumption) (by assumption) (.tail _ hpl) ⟨none, none, oc, none, news, ups, [], [], fMap2_none, rfl, dc, npl, by rw [List.append_nil, List.append_nil]; exact I, Nat.zero_le _, Nat.zero_le _, Step.refl, fun _ h => h, ⟨fun _ h => (nomatch h), fun _ h => (nomatch h), fun _ h => absurd h (Nat.not_lt_zero _)⟩⟩ ?_ ?_)
  · clear F N I
    rintro i v m₁ news₁ I₀ h tk oI hv ⟨kv, pv, oc, ov, N1, ups1, ke, le, rfl, rfl, dc, nc, I, hke, hle, hstep, hsub, fn⟩ hmem hI F N
    refine hide fun gP gQ => ?_
    obtain ⟨pi, pt, rfl, hp0, hp1⟩ := hpi v (List.mem_of_getElem? hv)
    have hi : i < 100 := by have := (List.getElem?_eq_some_iff.mp hv).1; omega
    obtain ⟨nou, hou⟩ := I.li
    have hI2 : ∀ q ∈ N1, q.1 ≠ I₀ := fun q hq => hI q (.tail _ hq)
    have cI : L' + 1 ≠ I₀ := hI _ (.head _)
    have hIou : I₀ ≠ ou := Ne.symm (hI2 _ hou)
    have hcou : L' + 1 ≠ ou := Ne.symm (nc _ hou)
    obtain ⟨hg1, τg, ng, hg2⟩ := id I.gr
    have hou1 : (ou, W.listOf (refs ups1).toArray nou) ∈ (I₀, oI) :: (L' + 1, oc) :: N1 := .tail _ (.tail _ hou)
    have n1 : News g' _ h N1 := sub N fun q hq => .tail _ (.tail _ hq)
    obtain ⟨okn, TK⟩ := I.kt
    obtain ⟨olf, TL⟩ := I.lt
    refine gQ ?_
    clear gQ gP
    have kn_ou : kn ≠ ou := ne_mk1 n1 TK.mem hou (by rw [TK.tab.mk1, mk_list]; decide)
    have lf_ou : lf ≠ ou := ne_mk1 n1 TL.mem hou (by rw [TL.tab.mk1, mk_list]; decide)
    have ckn : L' + 1 ≠ kn := Ne.symm (nc _ TK.mem)
    have clf : L' + 1 ≠ lf := Ne.symm (nc _ TL.mem)
    have Ikn : I₀ ≠ kn := Ne.symm (hI2 _ TK.mem)
    have Ilf : I₀ ≠ lf := Ne.symm (hI2 _ TL.mem)
    have lf_kn : lf ≠ kn := Ne.symm I.a1
    have htm1 : (tm, ot) ∈ N1 := hstep.keep _ htm (by simp only [List.mem_cons, List.not_mem_nil, or_false, not_or]; exact ⟨tm_ou, ht1, ht2⟩)
    have hpl1 : (pl, listOf places.toArray n) ∈ N1 := hstep.keep _ hpl hpl2
    have up : Step [ou] N1 ((ou, W.listOf (refs ups1).toArray nou) :: off ou ((I₀, oI) :: (L' + 1, oc) :: N1)) := step_cons.trans (step_cons.trans step_front)
    have one : ∀ {b : Addr} {ob : Obj}, (b, ob) ∈ N1 → b ≠ ou → (b, ob) ∈ (ou, W.listOf (refs ups1).toArray nou) :: off ou ((I₀, oI) :: (L' + 1, oc) :: N1) := fun hb hn => up.keep _ hb (by simpa using hn)
    have nt1 : NoTup N1 [ou] := .cons hou list_noTup .nil
    k_steps
    refine' go (find_spec (n := nou) (rest := off ou ((I₀, oI) :: (L' + 1, oc) :: N1)) (ups := ups1) (dg := dg) (st := st) B' F X' (front N hou1) T' rfl (by omega) (by omega) off_ne ?_ ?_ ?_ ?_ ?_)
    · exact ⟨one hg1 (ne_mk1 n1 hg1 hou (by rw [mk_inst, mk_list]; decide)), τg, ng, one hg2 (ne_mk1 n1 hg2 hou (by rw [mk_gr, mk_list]; decide))⟩
    · have := ups_len I.sorted I.rng; have := I.vl; omega
    · intro x hx
      obtain ⟨h1, τ, c, h2⟩ := I.ops x hx
      exact ⟨one h1 (ne_mk1 n1 h1 hou (by rw [mk_inst, mk_list]; decide)), τ, c, one h2 (ne_mk1 n1 h2 hou (by rw [mk_up, mk_list]; decide))⟩
    · intro x h2 tk2 hx F2 N2
      clear F N
      refine hide fun gP gQ => ?_
      obtain ⟨hx1, rfl⟩ := openAt_mem hx
      obtain ⟨k, hk1, hk2, hk3, hk4, hk5⟩ := I.r1 x hx1
      refine gQ ?_
      clear gQ gP
      have m1 := one htm1 tm_ou
      have m2 : (L' + 1, oc) ∈ (ou, W.listOf (refs ups1).toArray nou) :: off ou ((I₀, oI) :: (L' + 1, oc) :: N1) := .tail _ (mem_off_of (.tail _ (.head _)) hcou)
      have m3 : (I₀, oI) ∈ (ou, W.listOf (refs ups1).toArray nou) :: off ou ((I₀, oI) :: (L' + 1, oc) :: N1) := .tail _ (mem_off_of (.head _) hIou)
      have m4 : (ou, W.listOf (refs ups1).toArray nou) ∈ (ou, W.listOf (refs ups1).toArray nou) :: off ou ((I₀, oI) :: (L' + 1, oc) :: N1) := .head _
      clear one
      generalize hNL : (ou, W.listOf (refs ups1).toArray nou) :: off ou ((I₀, oI) :: (L' + 1, oc) :: N1) = NL at N2 m1 m2 m3 m4 up
      clear hNL
      k_steps
      rename_i tkg tkg2 D1 hh1 l2 D2 hh2 l3 hh3 F4 N4
      refine go ?_
      intro h3 oc3 F3 N3 dc3
      clear F4 N4
      have cD1 : D1 ≠ L' + 1 := Nat.ne_of_gt (l2 _ m2)
      have ID1 : D1 ≠ I₀ := Nat.ne_of_gt (l2 _ m3)
      generalize hNL3 : (L' + 1, oc3) :: off (L' + 1) _ = NL3 at N3
      have mT : KeyIn prog w NL3 [x.ix, tms x.ix] D1 := hNL3 ▸ ⟨_, .tail _ (mem_off_of (.tail _ (.head _)) cD1), TupKeyObj.made (.cons (intKind_is _ _ _ _) (.cons (intKind_is _ _ _ _) .nil))⟩
      have up3 : Step [ou] N1 NL3 := hNL3 ▸ ⟨fun q hq hn => .tail _ (mem_off_of (.tail _ (.tail _ (up.keep q hq hn))) (nc q hq)), fun q hq => let ⟨o, h⟩ := up.has q hq; ⟨o, .tail _ (mem_off_of (.tail _ (.tail _ h)) (nc q hq))⟩⟩
      have mc : (L' + 1, oc3) ∈ NL3 := hNL3 ▸ .head _
      have mI : (I₀, oI) ∈ NL3 := hNL3 ▸ .tail _ (mem_off_of (.tail _ (.tail _ m3)) (Ne.symm cI))
      have mo : (ou, W.listOf (refs ups1).toArray nou) ∈ NL3 := hNL3 ▸ .tail _ (mem_off_of (.tail _ (.tail _ m4)) (Ne.symm hcou))
      clear hNL3
      have mK : TabAt prog w NL3 kn okn (knTab (kx ++ ke)) := TK.keep n1 up3.keep nt1 (by simpa using kn_ou)
      have mL : TabAt prog w NL3 lf olf (lfTab (lx ++ le)) := TL.keep n1 up3.keep nt1 (by simpa using lf_ou)
      have hat : (atKey (knTab (kx ++ ke)) [x.ix, tms x.ix]) = some (k.ka, .ref x.u) := atKey_of_mem mK.tab.nodup (mem_knTab.mpr ⟨k, hk1, by show [k.p, k.t] = _; rw [hk2, hk3], by rw [hk4]⟩)
      have hat2 : (atKey (knTab (kx ++ ke)) [x.ix, tms x.ix]).isSome = true := by rw [hat]; rfl
      have mU : InstIn NL3 x.u x.d := by
        obtain ⟨h1, τ, c, h2⟩ := I.ops x hx1
        exact ⟨up3.keep _ h1 (by simpa using ne_mk1 n1 h1 hou (by rw [mk_inst, mk_list]; decide)), _, τ, _, _, _, c, up3.keep _ h2 (by simpa using ne_mk1 n1 h2 hou (by rw [mk_up, mk_list]; decide))⟩
      k_steps
      rename Fr g' L' _ _ => F5
      rename News g' L' _ _ => N5
      obtain ⟨od, Iu⟩ := mU.at N5
      refine go (same_ne (X'.keeps F5.keep) Iu (by k_is) (by k_is) (by k_is) (units1 (by omega)) ?_)
      k_steps
      refine go (set_T (units1 (by omega)) F5 (front N5 mK.mem) off_ne (mK.front N5) (mT.front N5 mK.mem mK.tab.noTup) (by have := I.kl; simp only [knTab, List.length_map]; omega) fun h6 o6 tk6 F6 N6 T6 => ?_)
      rw [storedH_same mK.tab.nodup hat] at T6
      have n3 : News g' _ _ NL3 := id N5
      clear F5 N5
      have up6 : Step [kn, ou] N1 ((kn, o6) :: off kn NL3) := step_set up3
      have mT6 : KeyIn prog w ((kn, o6) :: off kn NL3) [x.ix, tms x.ix] D1 := mT.front n3 mK.mem mK.tab.noTup
      have mL6 : TabAt prog w ((kn, o6) :: off kn NL3) lf olf (lfTab (lx ++ le)) := mL.keep n3 keep_front (.cons mK.mem mK.tab.noTup .nil) (by simpa using lf_kn)
      have mc6 : (L' + 1, oc3) ∈ (kn, o6) :: off kn NL3 := .tail _ (mem_off_of mc ckn)
      have mI6 : (I₀, oI) ∈ (kn, o6) :: off kn NL3 := .tail _ (mem_off_of mI Ikn)
      have mo6 : (ou, W.listOf (refs ups1).toArray nou) ∈ (kn, o6) :: off kn NL3 := .tail _ (mem_off_of mo (Ne.symm kn_ou))
      k_steps
      rename_i l7 hh7 F7 N7 l8
      have l7lt : ∀ p ∈ (kn, o6) :: off kn NL3, p.1 < l7 := fun p hp => by
        rcases List.mem_cons.mp hp with rfl | hp
        · exact l8.1
        · exact allLt_lt l8.2 p hp
      have up7 : Step [kn, ou] N1 ((l7, listOf #[] 0) :: (kn, o6) :: off kn NL3) := up6.trans step_cons
      have mT7 : KeyIn prog w ((l7, listOf #[] 0) :: (kn, o6) :: off kn NL3) [x.ix, tms x.ix] D1 := mT6.mono fun _ h => .tail _ h
      have mL7 : TabAt prog w ((l7, listOf #[] 0) :: (kn, o6) :: off kn NL3) lf olf (lfTab (lx ++ le)) := mL6.mono (.tail _ mL6.mem) fun y hy => (mL6.keys y hy).mono fun _ h => .tail _ h
      have kt7 : (kn, o6) ∈ (l7, listOf #[] 0) :: (kn, o6) :: off kn NL3 := .tail _ (.head _)
      have mc7 : (L' + 1, oc3) ∈ (l7, listOf #[] 0) :: (kn, o6) :: off kn NL3 := .tail _ mc6
      have mI7 : (I₀, oI) ∈ (l7, listOf #[] 0) :: (kn, o6) :: off kn NL3 := .tail _ mI6
      have mo7 : (ou, W.listOf (refs ups1).toArray nou) ∈ (l7, listOf #[] 0) :: (kn, o6) :: off kn NL3 := .tail _ mo6
      have ml7 : (l7, listOf #[] 0) ∈ (l7, listOf #[] 0) :: (kn, o6) :: off kn NL3 := .head _
      have l7c : l7 ≠ L' + 1 := Nat.ne_of_gt (l7lt _ mc6)
      have l7I : l7 ≠ I₀ := Nat.ne_of_gt (l7lt _ mI6)
      have l7ou : l7 ≠ ou := Nat.ne_of_gt (l7lt _ mo6)
      have l7lf : l7 ≠ lf := Nat.ne_of_gt (l7lt _ mL6.mem)
      have l7n : ∀ q ∈ news, q.1 < l7 := hstep.lt (up6.lt l7lt)
      clear l7lt mT6 mL6 mc6 mI6 mo6 up6
      generalize (l7, listOf #[] 0) :: (kn, o6) :: off kn NL3 = NL7 at N7 up7 mT7 mL7 kt7 mc7 mI7 mo7 ml7
      refine go (setdef_T (units1 (by omega)) F7 (front N7 mL7.mem) off_ne (mL7.front N7) (mT7.front N7 mL7.mem mL7.tab.noTup) (by have := I.ll; simp only [lfTab, List.length_map]; omega) ?_ ?_ (PySem.F.args_dict_setdefault_3 _ _ _))
      · intro p tk8 hp
        k_steps
        obtain ⟨e, he1, he2, _⟩ := mem_lfTab.mp (atKey_mem hp)
        rename Fr g' L' _ _ => F8
        rename News g' L' _ _ => N8
        rw [fMap2_set] at F8
        refine go (found_end (ke' := []) (le' := []) F8 N8 I n1 nc hI2 cI hke hle hstep hsub fn hv hkl hll hi hpl1 hpl2 (up7.wider (by simp)) mI7 mc7 dc3 ⟨_, mo7⟩ (fun _ h => h) (fun _ h => .inl h) ⟨_, kt7, by rw [List.append_nil]; exact T6⟩ ⟨_, mL7.mem, by rw [List.append_nil]; exact mL7.tab⟩ mT7 ⟨cD1, ID1⟩
          ⟨Nat.zero_le _, fun _ h => (nomatch h)⟩ ⟨Nat.zero_le _, fun _ h => (nomatch h)⟩ ⟨k, by rw [List.append_nil]; exact hk1, by show [k.p, k.t] = _; rw [hk2, hk3]⟩ ⟨e, by rw [List.append_nil]; exact he1, he2⟩ I.sorted I.rng
          (by rw [List.append_nil]; exact I.r1) (by rw [List.append_nil]; exact I.r2) (by rw [List.append_nil]; exact I.r3))
      · intro h8 o8 tk8 hnone F8 N8 T8
        have mT8 : KeyIn prog w ((lf, o8) :: off lf NL7) [x.ix, tms x.ix] D1 := mT7.front N7 mL7.mem mL7.tab.noTup
        clear F7 N7
        have up8 : Step [lf, kn, ou] N1 ((lf, o8) :: off lf NL7) := step_set up7
        k_steps
        rename Fr g' L' _ _ => F9
        rename News g' L' _ _ => N9
        rw [fMap2_set] at F9
        refine go (found_end (ke' := []) (le' := [⟨x.ix, tms x.ix, D1, l7, none⟩]) F9 N9 I n1 nc hI2 cI hke hle hstep hsub fn hv hkl hll hi hpl1 hpl2 (up8.wider (by simp)) (.tail _ (mem_off_of mI7 Ilf)) (.tail _ (mem_off_of mc7 clf)) dc3 ⟨_, .tail _ (mem_off_of mo7 (Ne.symm lf_ou))⟩ (fun _ h => h) (fun _ h => .inl h) ⟨_, .tail _ (mem_off_of kt7 I.a1), by rw [List.append_nil]; exact T6⟩ ⟨_, .head _, by rw [lfTab, List.map_append]; exact T8⟩ mT8 ⟨cD1, ID1⟩
          ⟨Nat.zero_le _, fun _ h => (nomatch h)⟩ ⟨Nat.le_refl _, fun e he => by rw [List.mem_singleton.mp he]; exact ⟨rfl, rfl, l7n, rfl, ⟨_, .tail _ (mem_off_of ml7 l7lf)⟩, l7c, l7I, l7ou⟩⟩ ⟨k, by rw [List.append_nil]; exact hk1, by show [k.p, k.t] = _; rw [hk2, hk3]⟩ ⟨_, List.mem_append_right _ (.head _), rfl⟩ I.sorted I.rng
          (by rw [List.append_nil]; exact I.r1) (by rw [List.append_nil]; exact I.r2) (by rw [List.append_nil]; exact I.r3))
    · intro u d τ kk h2 tk2 hx F2 N2 r1 r2 r3
      clear F N
      have hno := openAt_none I.sorted hx
      generalize hups : ups1.take (spot ups1 pi) ++ ⟨u, d, pi⟩ :: ups1.drop (spot ups1 pi) = ups2 at N2
      have hsp := put_sorted (u := u) (d := d) I.sorted hno
      rw [hups] at hsp
      have hmem2 : ∀ y, y ∈ ups2 ↔ y = ⟨u, d, pi⟩ ∨ y ∈ ups1 := fun y => by rw [← hups]; exact mem_put
      have dn : ∀ q ∈ N1, q.1 < d := fun q hq => by
        by_cases e : q.1 = ou
        · rw [e]; exact r2
        · exact r1 _ (mem_off_of (.tail _ (.tail _ hq)) e)
      have dI : I₀ < d := r1 _ (mem_off_of (.head _) hIou)
      have dc1 : L' + 1 < d := r1 _ (mem_off_of (.tail _ (.head _)) hcou)
      have up : Step [ou] N1 ((ou, W.listOf (refs ups2).toArray (nou + 1)) :: (u, instObj 81 d) :: (d, dictOf (upEs w.params τ (Value.ref g) pi Value.none) kk) :: off ou ((I₀, oI) :: (L' + 1, oc) :: N1)) :=
        (step_cons.trans (step_cons.trans (step_front (o := W.listOf (refs ups2).toArray (nou + 1))))).trans ⟨fun q hq _ => mem_mid2 hq, fun q hq => ⟨q.2, mem_mid2 hq⟩⟩
      have one : ∀ {b : Addr} {ob : Obj}, (b, ob) ∈ (I₀, oI) :: (L' + 1, oc) :: N1 → b ≠ ou → (b, ob) ∈ (ou, W.listOf (refs ups2).toArray (nou + 1)) :: (u, instObj 81 d) :: (d, dictOf (upEs w.params τ (Value.ref g) pi Value.none) kk) :: off ou ((I₀, oI) :: (L' + 1, oc) :: N1) := fun hb hn => .tail _ (.tail _ (.tail _ (mem_off_of hb hn)))
      have m1 := one (.tail _ (.tail _ htm1)) tm_ou
      have m2 := one (.tail _ (.head _)) hcou
      have m3 := one (.head _) hIou
      have m4 : (ou, W.listOf (refs ups2).toArray (nou + 1)) ∈ (ou, W.listOf (refs ups2).toArray (nou + 1)) :: (u, instObj 81 d) :: (d, dictOf (upEs w.params τ (Value.ref g) pi Value.none) kk) :: off ou ((I₀, oI) :: (L' + 1, oc) :: N1) := .head _
      have m5 : (u, instObj 81 d) ∈ (ou, W.listOf (refs ups2).toArray (nou + 1)) :: (u, instObj 81 d) :: (d, dictOf (upEs w.params τ (Value.ref g) pi Value.none) kk) :: off ou ((I₀, oI) :: (L' + 1, oc) :: N1) := .tail _ (.head _)
      have m6 : (d, dictOf (upEs w.params τ (Value.ref g) pi Value.none) kk) ∈ (ou, W.listOf (refs ups2).toArray (nou + 1)) :: (u, instObj 81 d) :: (d, dictOf (upEs w.params τ (Value.ref g) pi Value.none) kk) :: off ou ((I₀, oI) :: (L' + 1, oc) :: N1) := .tail _ (.tail _ (.head _))
      clear one r1
      generalize hNL : (ou, W.listOf (refs ups2).toArray (nou + 1)) :: (u, instObj 81 d) :: (d, dictOf (upEs w.params τ (Value.ref g) pi Value.none) kk) :: off ou ((I₀, oI) :: (L' + 1, oc) :: N1) = NL at N2 m1 m2 m3 m4 m5 m6 up
      clear hNL
      k_steps
      rename_i tkg tkg2 D1 hh1 l2 D2 hh2 l3 hh3 F4 N4
      refine go ?_
      intro h3 oc3 F3 N3 dc3
      clear F4 N4
      have cD1 : D1 ≠ L' + 1 := Nat.ne_of_gt (l2 _ m2)
      have ID1 : D1 ≠ I₀ := Nat.ne_of_gt (l2 _ m3)
      have uc1 : u ≠ L' + 1 := Nat.ne_of_gt (Nat.lt_trans dc1 r3)
      have dc2 : d ≠ L' + 1 := Nat.ne_of_gt dc1
      generalize hNL3 : (L' + 1, oc3) :: off (L' + 1) _ = NL3 at N3
      have mT : KeyIn prog w NL3 [pi, tms pi] D1 := hNL3 ▸ ⟨_, .tail _ (mem_off_of (.tail _ (.head _)) cD1), TupKeyObj.made (.cons (intKind_is _ _ _ _) (.cons (intKind_is _ _ _ _) .nil))⟩
      have up3 : Step [ou] N1 NL3 := hNL3 ▸ ⟨fun q hq hn => .tail _ (mem_off_of (.tail _ (.tail _ (up.keep q hq hn))) (nc q hq)), fun q hq => let ⟨o, h⟩ := up.has q hq; ⟨o, .tail _ (mem_off_of (.tail _ (.tail _ h)) (nc q hq))⟩⟩
      have mc : (L' + 1, oc3) ∈ NL3 := hNL3 ▸ .head _
      have mI : (I₀, oI) ∈ NL3 := hNL3 ▸ .tail _ (mem_off_of (.tail _ (.tail _ m3)) (Ne.symm cI))
      have mo : (ou, W.listOf (refs ups2).toArray (nou + 1)) ∈ NL3 := hNL3 ▸ .tail _ (mem_off_of (.tail _ (.tail _ m4)) (Ne.symm hcou))
      have mu : (u, instObj 81 d) ∈ NL3 := hNL3 ▸ .tail _ (mem_off_of (.tail _ (.tail _ m5)) uc1)
      have md : (d, dictOf (upEs w.params τ (Value.ref g) pi Value.none) kk) ∈ NL3 := hNL3 ▸ .tail _ (mem_off_of (.tail _ (.tail _ m6)) dc2)
      clear hNL3
      have mK : TabAt prog w NL3 kn okn (knTab (kx ++ ke)) := TK.keep n1 up3.keep nt1 (by simpa using kn_ou)
      have mL : TabAt prog w NL3 lf olf (lfTab (lx ++ le)) := TL.keep n1 up3.keep nt1 (by simpa using lf_ou)
      have hat : (atKey (knTab (kx ++ ke)) [pi, tms pi]) = none := atKey_none fun p hp => by
        obtain ⟨k, hk1, hk2, _⟩ := mem_knTab.mp hp
        injection hk2 with e1 e2; injection e2 with e2 _
        obtain ⟨y, hy1, hy2, _⟩ := I.r3 k hk1 (by rw [e2, e1])
        exact hno y hy1 (by rw [hy2, e1])
      have hat2 : (atKey (knTab (kx ++ ke)) [pi, tms pi]).isSome = false := by rw [hat]; rfl
      have mU : InstIn NL3 u d := ⟨mu, _, _, _, _, _, _, md⟩
      have mKs : ∀ k ∈ kx ++ ke, InstIn NL3 k.u k.d ∧ k.u ≠ u := fun k hk => by
        refine hide fun gP gQ => ?_
        obtain ⟨h1, P, τ, th, ix, v, c, h2⟩ := I.ins k hk
        refine gQ ?_
        clear gQ gP
        exact ⟨⟨up3.keep _ h1 (by simpa using ne_mk1 n1 h1 hou (by rw [mk_inst, mk_list]; decide)), P, τ, _, _, _, c, up3.keep _ h2 (by simpa using ne_mk1 n1 h2 hou (by rw [mk_up, mk_list]; decide))⟩, Nat.ne_of_lt (Nat.lt_trans (dn _ h1) r3)⟩
      k_steps
      refine go (comp_E_T (by assumption) (by with_unfolding_all rfl) (by decide) (by rfl) (by decide) (by rfl) ?_)
      k_steps
      rename_i Dv hv9 F5 N5 lv
      have mK5 : TabAt prog w ((Dv, { cls := .type "dict_values", data := .fields #[.ref kn] }) :: NL3) kn okn (knTab (kx ++ ke)) := mK.mono (.tail _ mK.mem) fun y hy => (mK.keys y hy).mono fun _ h => .tail _ h
      refine go (comp_values_T (fun i ys n => ys = [] ∧ n = (Dv, { cls := .type "dict_values", data := .fields #[.ref kn] }) :: NL3) rfl F5 N5 (.head _) mK5 (by have := I.kl; rw [knTab, List.length_map]; omega) ⟨rfl, rfl⟩ ?_ ?_)
      · rintro s5 j v ys n5 I5 oI5 C5 oC5 D5 m5 h5 tk5 E5 hj ⟨e, he, hv5⟩ ⟨rfl, rfl⟩ hs5 hC5 hx5 F5 N5 off5 ne5
        obtain ⟨k, hk5, rfl⟩ := List.mem_map.mp (List.mem_of_getElem? he)
        replace hv5 : v = .ref k.u := hv5
        subst hv5
        obtain ⟨od1, I1⟩ := (mKs k hk5).1.at (sub (news' := NL3) N5 fun q hq => .tail _ (.tail _ (.tail _ (.tail _ hq))))
        obtain ⟨od2, I2⟩ := mU.at (sub (news' := NL3) N5 fun q hq => .tail _ (.tail _ (.tail _ (.tail _ hq))))
        have k3 := X'.keeps F5.keep
        k_steps
        refine go (other_eq k3 I1 I2 (mKs k hk5).2 (by k_is) (by k_is) (units0 (by omega)) ?_)
        k_steps
        exact go (cturn _ F5 N5 (fun p hp => hp) off5 (fun p hp => by rw [List.mem_singleton.mp hp]; exact .tail _ mK.mem) ⟨rfl, rfl⟩)
      · intro h5 ys n5 ⟨e1, e2⟩ hm5
        subst e1 e2
        intro D6 h6 tk6 F6 N6 off6
        clear F5 N5
        k_steps
        rename_i l6 h6 F6 N6 lt6
        refine go (ne_dataS (.list (N6.get (.tail _ (.head _))) rfl rfl .nil) (.list (N6.get (.head _)) rfl rfl .nil) rfl rfl (units64 (by omega)) ?_)
        have e00 : (!PyData.eqv (PyData.list []) (PyData.list [])) = false := by rfl
        rw [e00]
        have N7 : News g' L' h6 NL3 := sub N6 fun q hq => .tail _ (.tail _ (.tail _ hq))
        clear N6
        k_steps
        rename Fr g' L' _ _ => F8
        rename News g' L' _ _ => N8
        refine go (set_T (units1 (by omega)) F8 (front N8 mK.mem) off_ne (mK.front N8) (mT.front N8 mK.mem mK.tab.noTup) (by have := I.kl; rw [knTab, List.length_map]; omega) fun h9 o9 tk9 F9 N9 T9 => ?_)
        rw [storedH_new hat] at T9
        have T9' : IsTab prog w o9 (knTab ((kx ++ ke) ++ [⟨pi, tms pi, D1, u, d⟩])) := by rw [knTab, List.map_append]; exact T9
        have mT6 : KeyIn prog w ((kn, o9) :: off kn NL3) [pi, tms pi] D1 := mT.front N8 mK.mem mK.tab.noTup
        have mL6 : TabAt prog w ((kn, o9) :: off kn NL3) lf olf (lfTab (lx ++ le)) := mL.keep N8 keep_front (.cons mK.mem mK.tab.noTup .nil) (by simpa using lf_kn)
        clear F8 N8 T9
        have knd : kn < d := dn _ TK.mem
        have lfd : lf < d := dn _ TL.mem
        have up6 : Step [kn, ou] N1 ((kn, o9) :: off kn NL3) := step_set up3
        have mc6 : (L' + 1, oc3) ∈ (kn, o9) :: off kn NL3 := .tail _ (mem_off_of mc ckn)
        have mI6 : (I₀, oI) ∈ (kn, o9) :: off kn NL3 := .tail _ (mem_off_of mI Ikn)
        have mo6 : (ou, W.listOf (refs ups2).toArray (nou + 1)) ∈ (kn, o9) :: off kn NL3 := .tail _ (mem_off_of mo (Ne.symm kn_ou))
        have mu6 : (u, instObj 81 d) ∈ (kn, o9) :: off kn NL3 := .tail _ (mem_off_of mu (Nat.ne_of_gt (Nat.lt_trans knd r3)))
        have md6 : (d, dictOf (upEs w.params τ (Value.ref g) pi Value.none) kk) ∈ (kn, o9) :: off kn NL3 := .tail _ (mem_off_of md (Nat.ne_of_gt knd))
        k_steps
        rename_i l7 hh7 F7 N7 l8
        have l7lt : ∀ p ∈ (kn, o9) :: off kn NL3, p.1 < l7 := fun p hp => by
          rcases List.mem_cons.mp hp with rfl | hp
          · exact l8.1
          · exact allLt_lt l8.2 p hp
        have up7 : Step [kn, ou] N1 ((l7, listOf #[] 0) :: (kn, o9) :: off kn NL3) := up6.trans step_cons
        have mT7 : KeyIn prog w ((l7, listOf #[] 0) :: (kn, o9) :: off kn NL3) [pi, tms pi] D1 := mT6.mono fun _ h => .tail _ h
        have mL7 : TabAt prog w ((l7, listOf #[] 0) :: (kn, o9) :: off kn NL3) lf olf (lfTab (lx ++ le)) := mL6.mono (.tail _ mL6.mem) fun y hy => (mL6.keys y hy).mono fun _ h => .tail _ h
        have kt7 : (kn, o9) ∈ (l7, listOf #[] 0) :: (kn, o9) :: off kn NL3 := .tail _ (.head _)
        have mc7 : (L' + 1, oc3) ∈ (l7, listOf #[] 0) :: (kn, o9) :: off kn NL3 := .tail _ mc6
        have mI7 : (I₀, oI) ∈ (l7, listOf #[] 0) :: (kn, o9) :: off kn NL3 := .tail _ mI6
        have mo7 : (ou, W.listOf (refs ups2).toArray (nou + 1)) ∈ (l7, listOf #[] 0) :: (kn, o9) :: off kn NL3 := .tail _ mo6
        have mu7 : (u, instObj 81 d) ∈ (l7, listOf #[] 0) :: (kn, o9) :: off kn NL3 := .tail _ mu6
        have md7 : (d, dictOf (upEs w.params τ (Value.ref g) pi Value.none) kk) ∈ (l7, listOf #[] 0) :: (kn, o9) :: off kn NL3 := .tail _ md6
        have ml7 : (l7, listOf #[] 0) ∈ (l7, listOf #[] 0) :: (kn, o9) :: off kn NL3 := .head _
        have l7c : l7 ≠ L' + 1 := Nat.ne_of_gt (l7lt _ mc6)
        have l7I : l7 ≠ I₀ := Nat.ne_of_gt (l7lt _ mI6)
        have l7ou : l7 ≠ ou := Nat.ne_of_gt (l7lt _ mo6)
        have l7lf : l7 ≠ lf := Nat.ne_of_gt (l7lt _ mL6.mem)
        have l7n : ∀ q ∈ news, q.1 < l7 := hstep.lt (up6.lt l7lt)
        have dnews : ∀ q ∈ news, q.1 < d ∧ q.1 < u := fun q hq => have h := hstep.lt dn q hq; ⟨h, Nat.lt_trans h r3⟩
        have dI0 : u ≠ I₀ ∧ d ≠ I₀ := ⟨Nat.ne_of_gt (Nat.lt_trans dI r3), Nat.ne_of_gt dI⟩
        have K1 : [(⟨pi, tms pi, D1, u, d⟩ : Kn)].length ≤ 1 ∧ ∀ k ∈ [(⟨pi, tms pi, D1, u, d⟩ : Kn)], k.key = [pi, tms pi] ∧ (∀ q ∈ news, q.1 < k.d ∧ q.1 < k.u) ∧ k.ka = D1 ∧ ∃ x ∈ ups2, x.u = k.u ∧ x.d = k.d ∧ x ∉ ups1 ∧ k.d ≠ kn ∧ k.d ≠ lf :=
          ⟨Nat.le_refl _, fun k hk => by
            rw [List.mem_singleton.mp hk]
            exact ⟨rfl, dnews, rfl, ⟨u, d, pi⟩, (hmem2 _).mpr (.inl rfl), rfl, rfl, fun h => hno _ h rfl, Nat.ne_of_gt knd, Nat.ne_of_gt lfd⟩⟩
        have R1 : ∀ x ∈ ups2, ∃ k ∈ (kx ++ ke) ++ [(⟨pi, tms pi, D1, u, d⟩ : Kn)], k.p = x.ix ∧ k.t = tms x.ix ∧ k.u = x.u ∧ k.d = x.d := fun x hx => by
          rcases (hmem2 x).mp hx with rfl | hx
          · exact ⟨_, List.mem_append_right _ (.head _), rfl, rfl, rfl, rfl⟩
          · obtain ⟨k, a, b⟩ := I.r1 x hx
            exact ⟨k, List.mem_append_left _ a, b⟩
        have R2 : (((kx ++ ke) ++ [(⟨pi, tms pi, D1, u, d⟩ : Kn)]).map (·.u)).Nodup := by
          rw [List.map_append, List.nodup_append]
          refine ⟨I.r2, by simp, fun x hx y hy => ?_⟩
          obtain ⟨k, hk, rfl⟩ := List.mem_map.mp hx
          rw [List.map_cons, List.map_nil, List.mem_singleton] at hy
          rw [hy]; exact (mKs k hk).2
        have R3 : ∀ k ∈ (kx ++ ke) ++ [(⟨pi, tms pi, D1, u, d⟩ : Kn)], k.t = tms k.p → ∃ x ∈ ups2, x.ix = k.p ∧ x.u = k.u ∧ x.d = k.d := fun k hk e => by
          rcases List.mem_append.mp hk with hk | hk
          · obtain ⟨x, a, b⟩ := I.r3 k hk e
            exact ⟨x, (hmem2 x).mpr (.inr a), b⟩
          · rw [List.mem_singleton.mp hk]
            exact ⟨_, (hmem2 _).mpr (.inl rfl), rfl, rfl, rfl⟩
        have RG : ∀ x ∈ ups2, 0 ≤ x.ix ∧ x.ix < vlen := fun x hx => by
          rcases (hmem2 x).mp hx with rfl | hx
          · exact ⟨hp0, hp1⟩
          · exact I.rng x hx
        have H1 : ∃ k ∈ (kx ++ ke) ++ [(⟨pi, tms pi, D1, u, d⟩ : Kn)], k.key = [pi, tms pi] := ⟨_, List.mem_append_right _ (.head _), rfl⟩
        clear l7lt mT6 mL6 mc6 mI6 mo6 up6 mu6 md6
        generalize (l7, listOf #[] 0) :: (kn, o9) :: off kn NL3 = NL7 at N7 up7 mT7 mL7 kt7 mc7 mI7 mo7 ml7 mu7 md7
        refine go (setdef_T (units1 (by omega)) F7 (front N7 mL7.mem) off_ne (mL7.front N7) (mT7.front N7 mL7.mem mL7.tab.noTup) (by have := I.ll; rw [lfTab, List.length_map]; omega) ?_ ?_ (PySem.F.args_dict_setdefault_3 _ _ _))
        · intro p tk8 hp
          k_steps
          obtain ⟨e, he1, he2, _⟩ := mem_lfTab.mp (atKey_mem hp)
          rename Fr g' L' _ _ => F8
          rename News g' L' _ _ => N8
          rw [fMap2_set] at F8
          refine go (found_end (ke' := [⟨pi, tms pi, D1, u, d⟩]) (le' := []) F8 N8 I n1 nc hI2 cI hke hle hstep hsub fn hv hkl hll hi hpl1 hpl2 (up7.wider (by simp)) mI7 mc7 dc3 ⟨_, mo7⟩ (fun x h => (hmem2 x).mpr (.inr h)) (fun x hx => ?_) ⟨_, kt7, T9'⟩ ⟨_, mL7.mem, by rw [List.append_nil]; exact mL7.tab⟩ mT7 ⟨cD1, ID1⟩
            K1 ⟨Nat.zero_le _, fun _ h => (nomatch h)⟩ H1 ⟨e, by rw [List.append_nil]; exact he1, he2⟩ hsp RG R1 R2 R3)
          rcases (hmem2 x).mp hx with rfl | hx
          · exact .inr ⟨⟨mu7, _, _, md7⟩, uc1, dc2, dI0.1, dI0.2⟩
          · exact .inl hx
        · intro h8 o8 tk8 hnone F8 N8 T8
          have mT8 : KeyIn prog w ((lf, o8) :: off lf NL7) [pi, tms pi] D1 := mT7.front N7 mL7.mem mL7.tab.noTup
          clear F7 N7
          have up8 : Step [lf, kn, ou] N1 ((lf, o8) :: off lf NL7) := step_set up7
          k_steps
          rename Fr g' L' _ _ => F9
          rename News g' L' _ _ => N9
          rw [fMap2_set] at F9
          refine go (found_end (ke' := [⟨pi, tms pi, D1, u, d⟩]) (le' := [⟨pi, tms pi, D1, l7, none⟩]) F9 N9 I n1 nc hI2 cI hke hle hstep hsub fn hv hkl hll hi hpl1 hpl2 (up8.wider (by simp)) (.tail _ (mem_off_of mI7 Ilf)) (.tail _ (mem_off_of mc7 clf)) dc3 ⟨_, .tail _ (mem_off_of mo7 (Ne.symm lf_ou))⟩ (fun x h => (hmem2 x).mpr (.inr h)) (fun x hx => ?_) ⟨_, .tail _ (mem_off_of kt7 I.a1), T9'⟩ ⟨_, .head _, by rw [lfTab, List.map_append]; exact T8⟩ mT8 ⟨cD1, ID1⟩
            K1 ⟨Nat.le_refl _, fun e he => by rw [List.mem_singleton.mp he]; exact ⟨rfl, rfl, l7n, rfl, ⟨_, .tail _ (mem_off_of ml7 l7lf)⟩, l7c, l7I, l7ou⟩⟩ H1 ⟨_, List.mem_append_right _ (.head _), rfl⟩ hsp RG R1 R2 R3)
          rcases (hmem2 x).mp hx with rfl | hx
          · exact .inr ⟨⟨.tail _ (mem_off_of mu7 (Nat.ne_of_gt (Nat.lt_trans lfd r3))), _, _, .tail _ (mem_off_of md7 (Nat.ne_of_gt lfd))⟩, uc1, dc2, dI0.1, dI0.2⟩
          · exact .inl hx
  · rintro m₁ news₁ h tk ⟨kv, pv, oc, ov, N1, ups1, ke, le, rfl, rfl, dc, nc, I, hke, hle, hstep, hsub, fn⟩ hmem F1 N1'
    clear F N
    k_steps
    exact go (back F1 N1' fun F9 N9 => post _ _ _ _ _ _ I hstep hsub fn hke hle F9 (sub N9 fun q hq => .tail _ hq))
end
end
section
open LCg
section
variable {prog : Program} {w : World} {A : Around} {E : Value → Shared → Prop} {s : Shared} {h₀ : Heap} {L : Addr} {m : Str → Option Value} {env : Env}

theorem nin1 {a b : Nat} (h : a ≠ b) : a ∉ [b] := by simpa using h
theorem newEnvC {scope : Scope} {cl : List (Str × Addr)} {x : Str} {Q : Env → Shared → Prop} (hcf : ∀ n, cellsFrom n scope.names cl = (x, n) :: cl) (hpc : ∀ h : Heap, pushCells h scope.names = h.push { cls := .type "cell", data := .cell none })
    (h : Q { scope := scope, locals := s.heap.objs.size, globals := env.globals, cells := (x, s.heap.objs.size + 1) :: cl, qual := env.qual, func := none, code := env.code, frame := env.frame, builtins := env.builtins }
      { s with heap := (s.heap.push { cls := .type "dict", data := .dict #[] }).push { cls := .type "cell", data := .cell none } }) :
    wpAny (model prog w) A (newFunctionEnv scope env.globals cl [] env.qual none .none (some env)) Q E s := by
  simp only [newFunctionEnv, Option.isSome_some, if_true]
  refine wpAny_bind (wpAny_alloc ?_)
  refine wpAny_bind (wpAny_layCells _ (fun name kind cells => by cases kind == NameKind.cell <;> simp) _ _ _ _ ?_)
  rw [hcf, hpc, List.forIn_nil]
  refine wpAny_bind (wpAny_pure (wpAny_pure ?_))
  dsimp only
  rw [show (s.heap.push { cls := .type "dict", data := .dict #[] }).objs.size = s.heap.objs.size + 1 from Heap.size_push ..]
  exact h

/-- the end of a turn of a comprehension whose name is a cell -/
def CTurnC (h₀ : Heap) (L : Addr) (m : Str → Option Value) (s₁ : Shared) (I : Addr) (oI : Obj) (C : Addr) (oC : Obj) (D : Addr) (oD : Obj) (c : Addr) (src : Led) (J : Value → Led → Prop) (y : Value) (s₂ : Shared) : Prop :=
  ∃ h' tk oc news', s₂ = { s₁ with heap := h', toks := tk } ∧ Fr h₀ L h' m ∧ News h₀ L h' ((I, oI) :: (C, oC) :: (D, oD) :: (c, oc) :: news') ∧ (∃ v, oc.data = .cell v) ∧ (∀ p ∈ news', p.1 ≠ I ∧ p.1 ≠ C ∧ p.1 ≠ D ∧ p.1 ≠ c) ∧ (∀ p ∈ src, p ∈ news') ∧ J y news'
theorem cturnC {I C D c : Addr} {s₁ : Shared} {oI oC oD oc : Obj} {v : Option Value} {src : Led} {J : Value → Led → Prop} {y : Value} {h' : Heap} {tk : Nat} {all : Led} (news' : Led)
    (F : Fr h₀ L h' m) (N : News h₀ L h' all) (hn : ∀ p ∈ (I, oI) :: (C, oC) :: (D, oD) :: (c, oc) :: news', p ∈ all) (hd : oc.data = .cell v) (off : ∀ p ∈ news', p.1 ≠ I ∧ p.1 ≠ C ∧ p.1 ≠ D ∧ p.1 ≠ c) (hs : ∀ p ∈ src, p ∈ news') (hj : J y news') :
    CTurnC h₀ L m s₁ I oI C oC D oD c src J y { s₁ with heap := h', toks := tk } := ⟨h', tk, oc, news', rfl, F, sub N hn, ⟨v, hd⟩, off, hs, hj⟩

/-- between the turns of a comprehension whose name is a cell -/
inductive CInvC (h₀ : Heap) (L l : Addr) (I : Nat) (m : Str → Option Value) (vs : List Value) (n : Nat) (s₁ : Shared) (J : Nat → List Value → Led → Prop) (k : Nat) (s' : Shared) : Prop
  | mk (h' : Heap) (tk : Tok) (i : Nat) (ys : List Value) (m' : Str → Option Value) (news' : Led) (ov : Option Value) (e : s' = { s₁ with heap := h', toks := tk }) (hi : i ≤ vs.length) (hk : k = vs.length + 1 - i) (hy : ys.length = i)
    (hst : h'.IsListIter I l i ∧ h'.IsList l vs.toArray) (F : Fr h₀ L h' m) (hn : h'.Ns (I + 1 + 1) m') (hc : h'.IsCell (I + 1 + 1 + 1) ov) (N : News h₀ L h' (((I + 1 : Nat), lst ys) :: news'))
    (off : ∀ p ∈ news', @Ne Nat p.1 I ∧ @Ne Nat p.1 (I + 1 + 1) ∧ @Ne Nat p.1 (I + 1) ∧ @Ne Nat p.1 (I + 1 + 1 + 1)) (hm : (l, listOf vs.toArray n) ∈ news') (hj : J i ys news') : CInvC h₀ L l I m vs n s₁ J k s'
theorem comp_EC {elt iter : PySem.Expr} {x : Str} {px : Pos} {scope : Scope} {cl : List (Str × Addr)} {pos : Pos} {Q : Value → Shared → Prop} {l : Addr} {n : Nat} {vs : List Value} (J : Nat → List Value → Led → Prop) (hF₀₀ : Fr h₀ L s.heap m)
    (hclos : closureFor scope env = pure cl) (hcf : ∀ n, cellsFrom n scope.names cl = (x, n) :: cl) (hpc : ∀ h : Heap, pushCells h scope.names = h.push { cls := .type "cell", data := .cell none }) (hkind : scope.kind = .function)
    (hnames : ∀ y ∈ scope.names, y.2 = .local → scope.names.lookup y.1 = some .local) (hx : (relabel scope env).names.lookup x = some .cell) (hh : A.handled = none) (hz : vs.length ≤ 1000000)
    (h : wpAny (model prog w) A (eval iter env) (fun xv s₁ => Stop (xv = .ref l ∧ ∃ news, Fr h₀ L s₁.heap m ∧ News h₀ L s₁.heap news ∧ (l, listOf vs.toArray n) ∈ news ∧ J 0 [] news ∧
      (∀ i v ys news I oI C oC D c oc h tk (E' : Value → Shared → Prop), vs[i]? = some v → J i ys news → (l, listOf vs.toArray n) ∈ news → Fr h₀ L h m → News h₀ L h ((I, oI) :: (C, oC) :: (D, lst ys) :: (c, oc) :: news) → oc.data = .cell (some v) →
        (∀ p ∈ news, p.1 ≠ I ∧ p.1 ≠ C ∧ p.1 ≠ D ∧ p.1 ≠ c) → ((@Ne Nat I C) ∧ (@Ne Nat I D) ∧ (@Ne Nat C D)) → ((@Ne Nat c I) ∧ (@Ne Nat c C) ∧ (@Ne Nat c D)) →
        wpAny (model prog w) A (eval elt (compEnvC scope ((x, c) :: cl) C env)) (CTurnC h₀ L m { s₁ with heap := h, toks := tk } I oI C oC D (lst ys) c [(l, listOf vs.toArray n)] (fun y news' => J (i + 1) (ys ++ [y]) news')) E' { s₁ with heap := h, toks := tk }) ∧
      (∀ ys news D h tk, J vs.length ys news → Fr h₀ L h m → News h₀ L h ((D, lst ys) :: news) → (∀ p ∈ news, p.1 ≠ D) → Q (.ref D) { s₁ with heap := h, toks := tk }))) E s)
    (hs : ∀ x, foldedSetIterable iter env x = pure x := by intro _; rfl) :
    wpAny (model prog w) A (eval (.ListComp elt [⟨.Name x px, iter, [], 0⟩] scope pos) env) Q E s := by
  rw [eval_ListComp]
  refine wpAny_comprehension_free (use := none) rfl hs hclos hkind hnames (wpAny_mono h (fun xv s₁ h₁ => ?_) fun _ _ e => e)
  obtain ⟨rfl, news, F, N, hm, hj, turn, fin⟩ := h₁
  have hl := isList N hm
  have hlt : l < s₁.heap.objs.size := Heap.lt_size (N _ hm).1
  refine wpAny_pyIter_list hl ?_
  obtain ⟨I, hI⟩ : ∃ I : Nat, s₁.heap.objs.size = I := ⟨_, rfl⟩
  have W0 := Walks.list (prog := prog) (w := w) hh I l (by rw [← hI]; exact Nat.ne_of_lt hlt) vs.toArray
  have W : Walks prog w A I [I, l] [I] vs.length (fun i v => vs[i]? = some v) (fun i h => h.IsListIter I l i ∧ h.IsList l vs.toArray) :=
    { sub := W0.sub, frame := W0.frame, item := fun i s Q E hi st hQ => W0.item i s Q E (by simpa using hi) st fun v h' tk hP => hQ v h' tk (by simpa using hP), done := fun s Q E st hQ => W0.done s Q E (by simpa using st) hQ, self := W0.self }
  clear W0
  rw [hI]
  refine wpAny_newObj_type ?_
  refine newEnvC hcf hpc ?_
  dsimp only
  have z0 : (s₁.heap.push { cls := .type "list_iterator", data := .fields #[.ref l, .int 0 0] }).objs.size = I + 1 := by rw [Heap.size_push, hI]
  have z1 : ((s₁.heap.push { cls := .type "list_iterator", data := .fields #[.ref l, .int 0 0] }).push { cls := .type "list", data := .seq ([] : List Value).toArray }).objs.size = I + 1 + 1 := by rw [Heap.size_push, z0]
  have z2 : (((s₁.heap.push { cls := .type "list_iterator", data := .fields #[.ref l, .int 0 0] }).push { cls := .type "list", data := .seq ([] : List Value).toArray }).push { cls := .type "dict", data := .dict #[] }).objs.size = I + 1 + 1 + 1 := by rw [Heap.size_push, z1]
  have up1 : ∀ b o, s₁.heap.get? b = some o → ((((s₁.heap.push { cls := .type "list_iterator", data := .fields #[.ref l, .int 0 0] }).push { cls := .type "list", data := .seq ([] : List Value).toArray }).push { cls := .type "dict", data := .dict #[] }).push { cls := .type "cell", data := .cell none }).get? b = some o :=
    fun b o e => Heap.get?_push_of_some _ (Heap.get?_push_of_some _ (Heap.get?_push_of_some _ (Heap.get?_push_of_some _ e)))
  have gI : ((((s₁.heap.push { cls := .type "list_iterator", data := .fields #[.ref l, .int 0 0] }).push { cls := .type "list", data := .seq ([] : List Value).toArray }).push { cls := .type "dict", data := .dict #[] }).push { cls := .type "cell", data := .cell none }).get? I = some { cls := .type "list_iterator", data := .fields #[.ref l, .int 0 0] } :=
    Heap.get?_push_of_some _ (Heap.get?_push_of_some _ (Heap.get?_push_of_some _ (hI ▸ Heap.get?_push_size _ rfl)))
  have gD : ((((s₁.heap.push { cls := .type "list_iterator", data := .fields #[.ref l, .int 0 0] }).push { cls := .type "list", data := .seq ([] : List Value).toArray }).push { cls := .type "dict", data := .dict #[] }).push { cls := .type "cell", data := .cell none }).get? (I + 1) = some (lst []) :=
    Heap.get?_push_of_some _ (Heap.get?_push_of_some _ (z0 ▸ Heap.get?_push_size _ rfl))
  have gC : ((((s₁.heap.push { cls := .type "list_iterator", data := .fields #[.ref l, .int 0 0] }).push { cls := .type "list", data := .seq ([] : List Value).toArray }).push { cls := .type "dict", data := .dict #[] }).push { cls := .type "cell", data := .cell none }).Ns (I + 1 + 1) (fun _ => none) :=
    (z1 ▸ Heap.Ns.new _ (.type "dict") : Heap.Ns _ (I + 1 + 1) _).keeps fun b o e => Heap.get?_push_of_some _ e
  have gc : ((((s₁.heap.push { cls := .type "list_iterator", data := .fields #[.ref l, .int 0 0] }).push { cls := .type "list", data := .seq ([] : List Value).toArray }).push { cls := .type "dict", data := .dict #[] }).push { cls := .type "cell", data := .cell none }).IsCell (I + 1 + 1 + 1) none :=
    ⟨_, z2 ▸ Heap.get?_push_size _ rfl, rfl⟩
  rw [z0, z1]
  generalize ((((s₁.heap.push { cls := .type "list_iterator", data := .fields #[.ref l, .int 0 0] }).push { cls := .type "list", data := .seq ([] : List Value).toArray }).push { cls := .type "dict", data := .dict #[] }).push { cls := .type "cell", data := .cell none }) = H at up1 gI gD gC gc ⊢
  have old : ∀ p ∈ news, @LT.lt Nat _ p.1 I := fun p hp => hI ▸ Heap.lt_size (N p hp).1
  have LI : @LT.lt Nat _ L I := hI ▸ F.ns.lt
  have fresh : ∀ a, I ≤ a → h₀.get? a = none := fun a ha => by
    cases e : h₀.get? a with
    | none => rfl
    | some o' => have := Heap.lt_size (F.keep a o' e); rw [hI] at this; exact absurd this (Nat.not_lt.mpr ha)
  have fI := fresh I (Nat.le_refl _)
  have fD := fresh (I + 1) (by omega)
  have fC := fresh (I + 1 + 1) (by omega)
  have fc := fresh (I + 1 + 1 + 1) (by omega)
  have nI : @Ne Nat I L := Nat.ne_of_gt LI
  have nD : @Ne Nat (I + 1) L := by omega
  have nC : @Ne Nat (I + 1 + 1) L := by omega
  have ncL : @Ne Nat (I + 1 + 1 + 1) L := by omega
  have loop : ∀ s₃ : Shared, s₃ = { s₁ with heap := H } →
      codeAny (model prog w) A (.compLoop (.ListComp elt [⟨.Name x px, iter, [], 0⟩] scope pos) 0 (.ref I) (.ref (I + 1)) (compEnvC scope ((x, (I + 1 + 1 + 1 : Nat)) :: cl) (I + 1 + 1) env))
        (compPost (model prog w) A E none Q (.ref (I + 1)) (I + 1 + 1)) s₃ := by
    rintro s₃ rfl
    refine codeAny_compLoop_tests
      (CInvC h₀ L l I m vs n s₁ J) ?_ (vs.length + 1)
      ⟨H, _, 0, [], _, news, none, rfl, Nat.zero_le _, rfl, rfl, ⟨⟨_, gI, rfl, rfl⟩, let ⟨o, e, r⟩ := hl; ⟨o, up1 _ _ e, r⟩⟩, F.keeps up1, gC, gc, fun p hp => ?_, fun p hp => ?_, hm, hj⟩
    · rintro k s' ⟨h', tk, i, ys, m', news', ov, rfl, hi, rfl, hyl, hst', F', hn', hc', N', off', hm', J'⟩
      by_cases hlt : i < vs.length
      · refine W.item i _ _ _ hlt hst' fun v h₂ tk₂ hPv hst₂ hk₂ => ?_
        obtain ⟨ocell, gcell, dcell⟩ := hc'
        have gcell₂ : h₂.get? (I + 1 + 1 + 1) = some ocell := hk₂ _ _ (nin1 (by omega)) gcell
        refine wpAny_assign_Name (wpAny_storeName_cell (c := (I + 1 + 1 + 1 : Nat)) (by exact hkind) hx (by simp [compEnvC]) ⟨ocell, gcell₂, dcell⟩ fun h₃ hc₃ hs₃ => ?_)
        refine wpAny_tests_nil ?_
        simp only [if_true]
        have k₃ : ∀ b o, b ≠ (I + 1 + 1 + 1 : Nat) → h₂.get? b = some o → h₃.get? b = some o := fun b o hb e => hs₃.extBut b o hb e
        have lne : @Ne Nat l (I + 1 + 1 + 1) := by have := old _ hm; dsimp only at this; omega
        have hst₃ : h₃.IsListIter I l (i + 1) ∧ h₃.IsList l vs.toArray := W.frame _ _ _ hst₂ fun b hb o e => k₃ b o (by
          rcases List.mem_cons.mp hb with rfl | hb
          · exact neN (by omega)
          · rw [List.mem_singleton.mp hb]; exact lne) e
        obtain ⟨oI, heI, _⟩ := hst₃.1
        obtain ⟨oC, heC, hoC⟩ := ns_obj (hn'.at' (fun o e => k₃ _ o (neN (by omega)) (hk₂ _ o (nin1 (by omega)) e)))
        obtain ⟨oc, hec, hdc⟩ := hc₃
        have F₃ : Fr h₀ L h₃ m := (fr_but F' hk₂ (Ne.symm nI) fI).change hs₃ ncL fc
        have N₃ : News h₀ L h₃ ((I, oI) :: ((I + 1 + 1 : Nat), oC) :: ((I + 1 : Nat), lst ys) :: ((I + 1 + 1 + 1 : Nat), oc) :: news') := fun p hp => by
          rcases List.mem_cons.mp hp with rfl | hp
          · exact ⟨heI, nI, fI⟩
          rcases List.mem_cons.mp hp with rfl | hp
          · exact ⟨heC, nC, fC⟩
          rcases List.mem_cons.mp hp with rfl | hp
          · have z := N' _ (.head _)
            exact ⟨k₃ _ _ (neN (a := I + 1) (by omega)) (hk₂ _ _ (nin1 (by omega)) z.1), nD, fD⟩
          rcases List.mem_cons.mp hp with rfl | hp
          · exact ⟨hec, ncL, fc⟩
          · have z := N' p (.tail _ hp)
            have o := off' p hp
            exact ⟨k₃ _ _ o.2.2.2 (hk₂ _ _ (by simpa using o.1) z.1), z.2⟩
        refine wpAny_mono (turn i v ys news' I oI (I + 1 + 1 : Nat) oC (I + 1 : Nat) (I + 1 + 1 + 1 : Nat) oc h₃ _ _ hPv J' hm' F₃ N₃ hdc off' ⟨neN (by omega), neN (by omega), neN (by omega)⟩ ⟨neN (by omega), neN (by omega), neN (by omega)⟩) (fun y s₄ h₄ => ?_) fun _ _ e => e
        obtain ⟨h₄, tk₄, oc₄, news₄, rfl, F₄, N₄, ⟨v₄, hd₄⟩, off₄, hs₄, J₄⟩ := h₄
        have zI := (N₄ (I, oI) (.head _)).1
        have zC := (N₄ ((I + 1 + 1 : Nat), oC) (.tail _ (.head _))).1
        have zD := (N₄ ((I + 1 : Nat), lst ys) (.tail _ (.tail _ (.head _)))).1
        have zc := (N₄ ((I + 1 + 1 + 1 : Nat), oc₄) (.tail _ (.tail _ (.tail _ (.head _))))).1
        have N₄' : News h₀ L h₄ news₄ := fun p hp => N₄ p (.tail _ (.tail _ (.tail _ (.tail _ hp))))
        have hm₄ := hs₄ _ (List.mem_singleton.mpr rfl)
        refine append_at (hsz := by show ys.toArray.size ≤ sizeLine; rw [List.size_toArray, hyl, sizeLine_eq]; omega) zD fun h₅ hs₅ hD₅ => ?_
        refine ⟨vs.length + 1 - (i + 1), by omega, h₅, tk₄, i + 1, ys ++ [y], _, news₄, v₄, rfl, hlt, rfl, by rw [List.length_append, List.length_singleton, hyl], ⟨⟨oI, hs₅.extBut _ _ (neN (by omega)) zI, by obtain ⟨o', e', r⟩ := hst₃.1; rw [heI] at e'; cases e'; exact r⟩, ?_⟩, F₄.change hs₅ nD fD,
          (hoC.ns zC).sameBut hs₅ (neN (by omega)), ⟨oc₄, hs₅.extBut _ _ (neN (by omega)) zc, hd₄⟩, fun p hp => ?_, off₄, hm₄, J₄⟩
        · exact ⟨_, hs₅.extBut _ _ (off₄ _ hm₄).2.2.1 (N₄' _ hm₄).1, rfl, n, rfl⟩
        · rcases List.mem_cons.mp hp with rfl | hp
          · exact ⟨hD₅.trans (congrArg some (lst_snoc ys y)), nD, fD⟩
          · exact ⟨hs₅.extBut _ _ (off₄ p hp).2.2.1 (N₄' p hp).1, (N₄' p hp).2⟩
      · obtain rfl : i = vs.length := Nat.le_antisymm hi (Nat.not_lt.mp hlt)
        refine W.done _ _ _ hst' fun h₂ tk₂ hk₂ => ?_
        refine ⟨m', hn'.at' (fun o e => hk₂ _ o (nin1 (by omega)) e), fun h'' hs'' => ?_⟩
        refine fin ys news' (I + 1 : Nat) h'' _ J' ((fr_but F' hk₂ (Ne.symm nI) fI).change hs'' nC fC) (fun p hp => ?_) fun p hp => (off' p hp).2.2.1
        have z := N' p hp
        rcases List.mem_cons.mp hp with rfl | hp
        · exact ⟨hs''.extBut _ _ (neN (a := I + 1) (by omega)) (hk₂ _ _ (nin1 (by omega)) z.1), z.2⟩
        · exact ⟨hs''.extBut _ _ (off' p hp).2.1 (hk₂ _ _ (by simpa using (off' p hp).1) z.1), z.2⟩
    · rcases List.mem_cons.mp hp with rfl | hp
      · exact ⟨gD, nD, fD⟩
      · exact ⟨up1 _ _ (N p hp).1, (N p hp).2⟩
    · have := old p hp
      exact ⟨neN (by omega), neN (by omega), neN (by omega), neN (by omega)⟩
  exact codeAny_compStart_list (loop _ rfl) (W.self 0 _ _ _ ⟨⟨_, gI, rfl, rfl⟩, let ⟨o, e, r⟩ := hl; ⟨o, up1 _ _ e, r⟩⟩ (loop _ rfl))
end
end
section
theorem lay_MNames : True := by
  k_with_none
  k_with "exec While" => refine stop ?_
  k_with "Back" => refine stop ?_
  k_with "WhileStep" => refine stop ?_
  k_with "call builtin:len" => (k_here; (with_reducible show wpAny _ _ (call (Value.builtin "len") [Value.ref _]) _ _ _); k_dflt (refine' len_L (by k_asm) (by k_mem) (by first | exact List.length_map _ | exact rfl) (by omega) ?_); intro _ _)
  k_with "subscriptTail" => (k_here; (with_reducible show wpAny _ _ (subscriptTail _ _ (Value.ref _) (Value.int _ _)) _ _ _); k_dflt (refine' item_L (by k_asm) (by k_mem) (by first | exact at_refs (by assumption) | assumption | exact rfl) (by omega) ?_ (by with_unfolding_all rfl)))
  k_with "call builtin:list.insert" => (k_here; (with_reducible show wpAny _ _ (call (Value.builtin _) [Value.ref _, Value.int _ _, _]) _ _ _); k_dflt (refine' insert_L (by k_asm) (by k_asm) ?_ ?_ (by k_upd) ?_; (first | assumption | (simp only [List.length_map]; first | assumption | omega)); (simp only [List.length_map]; omega)); intro _ _ _; (try k_sweep))
  k_with "call builtin:list.pop" => (k_here; (with_reducible show wpAny _ _ (call (Value.builtin _) [Value.ref _, Value.int _ _]) _ _ _); k_dflt (refine' pop0_L (by k_asm) (by k_asm) ?_ (by k_upd) ?_; (simp only [List.length_map]; omega)); intro _ _ _; (try k_sweep))
  k_with "call builtin:list.append" => (k_here; (with_reducible show wpAny _ _ (call (Value.builtin _) [Value.ref _, _]) _ _ _); k_dflt (refine' append_L (by k_asm) (by k_asm) ?_ (by k_upd) ?_; (first | omega | (simp only [List.length_map]; omega) | (simp; omega))); intro _ _ _; (try k_sweep))
  k_with "setAttr ref" => (k_here; k_dflt (refine' set_dict (by k_asm) (by k_asm) (by k_asm) (by k_inst) (by exact rfl) (by k_is) (by k_is) (by k_is) (by k_is) (by k_get) (by first | exact put_value | exact put_thread | exact put_index) (by k_upd) (by exact Nat.le_of_ble_eq_true rfl) ?_; k_whole; intro _ _ _; (try k_sweep)))
  k_with "setItem ref int" => (k_here; (with_reducible show wpAny _ _ (setItem (Value.ref _) (Value.int _ _) _) _ _ _); k_dflt (refine' set_L (by k_asm) (by k_asm) (by k_upd) (by first | assumption | omega | (constructor <;> omega)) (by first | omega | (simp only [List.length_map]; omega)) ?_); intro _ _ _; (try k_sweep))
  k_with "exec For Name Attribute cons nil" => refine stop ?_
  k_with "exec For Name Name cons nil" => refine stop ?_
  k_with "TurnE" => refine stop ?_
  k_with "eval ListComp" => refine stop ?_
  k_with "exec Assign cons ListComp" => refine stop ?_
  k_with "CTurn" => refine stop ?_
  k_with "FinE" => refine stop ?_
  k_with "FinA" => refine stop ?_
  k_with "getMethod ref" => (k_here; (with_reducible show wpAny _ _ (getMethod (Value.ref _) (Str.ofString "get") _) _ _ _); k_dflt (refine' times_method (by k_asm) (by k_mem) (by k_asm) ?_))
  k_with "getMethod ref" => (k_here; (with_reducible show wpAny _ _ (getMethod (Value.ref _) (Str.ofString "setdefault") _) _ _ _); k_dflt (refine' tab_method PySem.F.slot_dict_setdefault PySem.F.type_dict_setdefault (by k_asm) (by k_asm) ?_))
  k_with "getMethod ref" => (k_here; (with_reducible show wpAny _ _ (getMethod (Value.ref _) (Str.ofString "values") _) _ _ _); k_dflt (refine' tab_method PySem.F.slot_dict_values PySem.F.type_dict_values (by k_asm) (by k_asm) ?_))
  k_with "call builtin:dict.get" => (k_here; k_dflt (refine' times_get (by k_asm) (by k_mem) (by k_asm) (by k_asm) ?_); intro _ _)
  k_with "call builtin:dict.setdefault" => refine stop ?_
  k_with "storeName" => (k_here; k_dflt (refine' storeC (by k_asm) (by k_asm) (by rfl) (by k_mem) (by k_asm) ?_ (by rfl) (by rfl)); refine stop ?_)
  k_with "setItem ref ref" => refine stop ?_
  k_with "compareOp NotEq ref ref" => refine stop ?_
  k_with "compareOp Eq ref ref" => refine stop ?_
  k_with "compareOp In ref ref" => (k_here; k_dflt (refine' in_T (by exact units1 (by omega)) (by k_asm) (by k_asm) (by k_asm) (by first | k_asm | exact rfl) ?_); intro _)
  k_with "subscriptTail" => (k_here; (with_reducible show wpAny _ _ (subscriptTail _ _ (Value.ref _) (Value.ref _)) _ _ _); k_dflt (refine' item_T (by exact units1 (by omega)) (by k_asm) (by k_asm) (by k_asm) (by k_asm) ?_ (by with_unfolding_all rfl) (by intro _; with_unfolding_all rfl)); intro _; (try dsimp only))
  k_with "call builtin:dict.values" => (k_here; k_dflt (refine' values_T (by k_asm) (by k_asm) (by k_asm) ?_); intro _ _ _ _ _)
  k_with "CTurnC" => refine stop ?_
  k_with "call builtin:sorted" => refine stop ?_
  k_with "subscriptTail Name Slice ref ref" => refine stop ?_
  trivial
inductive NamesAre (N : Led) : List Addr → List Addr → Prop
  | nil : NamesAre N [] []
  | cons {l ka : Addr} {ls kas : List Addr} : (∃ c, (l, listOf [Value.ref ka].toArray c) ∈ N) → NamesAre N ls kas → NamesAre N (l :: ls) (ka :: kas)
theorem NamesAre.mono {N N' : Led} {ls kas : List Addr} (h : NamesAre N ls kas) (s : ∀ p ∈ N, p ∈ N') : NamesAre N' ls kas := by
  induction h with
  | nil => exact .nil
  | cons h _ ih => exact .cons (let ⟨c, x⟩ := h; ⟨c, s _ x⟩) ih
theorem NamesAre.snoc {N : Led} {ls kas : List Addr} {l ka : Addr} (h : NamesAre N ls kas) (x : ∃ c, (l, listOf [Value.ref ka].toArray c) ∈ N) : NamesAre N (ls ++ [l]) (kas ++ [ka]) := by
  induction h with
  | nil => exact .cons x .nil
  | cons h _ ih => exact .cons h ih
theorem filter_one {k : Kn} : ∀ {kx : List Kn}, (kx.map (·.u)).Nodup → k ∈ kx → kx.filter (fun e => e.u == k.u) = [k]
  | [], _, h => nomatch h
  | y :: r, hn, h => by
    rw [List.map_cons, List.nodup_cons] at hn
    have none : ∀ {z : Kn}, z.u ∉ r.map (·.u) → r.filter (fun e => e.u == z.u) = [] := fun {z} hz => by
      rw [List.filter_eq_nil_iff]
      intro e he h
      exact hz (by rw [← eq_of_beq h]; exact List.mem_map_of_mem he)
    rcases List.mem_cons.mp h with rfl | h
    · rw [List.filter_cons, if_pos (by simp), none hn.1]
    · have : ¬ (y.u == k.u) = true := fun e => hn.1 (by rw [eq_of_beq e]; exact List.mem_map_of_mem h)
      rw [List.filter_cons, if_neg this]
      exact filter_one hn.2 h
theorem off1_mem {D : Addr} : ∀ {l : Led}, LCg.Off1 D l → ∀ p ∈ l, p.1 ≠ D
  | [], _, _, h => nomatch h
  | _ :: _, x, p, h => by
    rcases List.mem_cons.mp h with rfl | h
    · exact x.1
    · exact off1_mem x.2 p h
section
variable {w : World} {loose : List Str} {mean : ExcName → Option Value} {mg mb : Str → Option Value} {dp un : Nat} {gd : Option (List Code)} {cn : Str} {cs : Scope} {a : Addr} {ccd : Value} {cl : List (Str × Addr)} {outer : List Env} {A₀ : Around} {base h₀ : Heap} {L : Addr} {m : Str → Option Value} {s : Shared} {Q E : Value → Shared → Prop} {news : Led}
theorem names_spec {kn row : Addr} {okn : Obj} {kx us : List Kn} {n : Nat}
    (B : Below A₀ base outer h₀) (F : Fr h₀ L s.heap m) (X : (Mine.Hd.top.heap_1 w.params).In h₀) (N : News h₀ L s.heap news) (T : Top VW loose mean mg mb h₀) (hk : cs.kind = .function) (hd : dp ≤ 440) (hu : un ≤ 400)
    (TK : TabAt prog w news kn okn (knTab kx)) (hrow : (row, listOf (us.map fun k => Value.ref k.u).toArray n) ∈ news) (hus : ∀ k ∈ us, k ∈ kx) (hlen : us.length ≤ 1000) (hkl : kx.length ≤ 1000) (hI : ∀ k ∈ kx, InstIn news k.u k.d) (hn : (kx.map (·.u)).Nodup)
    (post : ∀ D ls c N' h' tk', Fr h₀ L h' m → News h₀ L h' N' → (∀ p ∈ news, p ∈ N') → (D, listOf (ls.map Value.ref).toArray c) ∈ N' → NamesAre N' ls (us.map (·.ka)) → Q (.ref D) { s with heap := h', toks := tk' }) :
    wpAny (model prog w) (ktrTop dp un gd cn cs L a ccd cl outer) (call (.ref 170) [.ref kn, .ref row]) Q E s := by
  refine enterC (f := 170) (binds := [(Str.ofString "known", .ref kn), (Str.ofString "row", .ref row)]) B F X N T hk (by omega) (by k_is) (by k_is) (by rfl) (by rfl) (by decide +kernel) (by rfl) (by rfl) (by rfl) ?_
  clear F N
  intro g' L' h₁ tk cells F N Y B' X' T' l1
  k_cells Y
  simp only [List.cons_append, List.nil_append] at N
  rename_i oc dc
  replace dc : oc.data = .cell (some (.ref kn)) := dc
  replace F : Fr g' L' h₁ (fun y => if y = Str.ofString "row" then some (.ref row) else none) := F
  k_steps
  refine go (comp_EC (l := row) (n := n) (vs := us.map fun k => Value.ref k.u) (fun i ys N' => ∃ ls, ys = ls.map Value.ref ∧ (∀ p ∈ (L' + 1, oc) :: news, p ∈ N') ∧ NamesAre N' ls ((us.take i).map (·.ka))) F (by with_unfolding_all rfl) (fun _ => rfl) (fun _ => rfl) (by rfl) (by decide) (by rfl) (by rfl) (by rw [List.length_map]; omega) ?_)
  k_steps
  refine go ⟨rfl, _, F, N, .tail _ hrow, ⟨[], rfl, fun _ h => h, by simpa using NamesAre.nil⟩, ?_, ?_⟩
  · clear F N
    rintro i v ys N1 I oI C oC D c oc1 h tk E' hv ⟨ls, rfl, hsub, hnm⟩ hm F N dc1 off1 ne1 ne2
    obtain ⟨k, hki, rfl⟩ : ∃ k, us[i]? = some k ∧ v = Value.ref k.u := by
      rw [List.getElem?_map] at hv
      obtain ⟨k, h1, h2⟩ := Option.map_eq_some_iff.mp hv
      exact ⟨k, h1, h2.symm⟩
    have hkk := hus k (List.mem_of_getElem? hki)
    have mc : (L' + 1, oc) ∈ (I, oI) :: (C, oC) :: (D, LCg.lst (ls.map Value.ref)) :: (c, oc1) :: N1 := .tail _ (.tail _ (.tail _ (.tail _ (hsub _ (.head _)))))
    have mc1 : (c, oc1) ∈ (I, oI) :: (C, oC) :: (D, LCg.lst (ls.map Value.ref)) :: (c, oc1) :: N1 := .tail _ (.tail _ (.tail _ (.head _)))
    have msub : ∀ p ∈ news, p ∈ (I, oI) :: (C, oC) :: (D, LCg.lst (ls.map Value.ref)) :: (c, oc1) :: N1 := fun p hp => .tail _ (.tail _ (.tail _ (.tail _ (hsub _ (.tail _ hp)))))
    generalize hW : (I, oI) :: (C, oC) :: (D, LCg.lst (ls.map Value.ref)) :: (c, oc1) :: N1 = W at N mc mc1 msub
    have TW : TabAt prog w W kn okn (knTab kx) := TK.mono (msub _ TK.mem) fun x hx => (TK.keys x hx).mono fun o ho => msub _ ho
    refine go (comp_E_T F (by with_unfolding_all rfl) (by decide) (by rfl) (by decide) (by rfl) ?_)
    k_steps
    refine go (comp_keys_T (fun j ys n => n = W ∧ ys = ((kx.take j).filter (fun e => e.u == k.u)).map fun e => Value.ref e.ka) rfl F N TW (by rw [knTab, List.length_map]; omega) ⟨rfl, rfl⟩ ?_ ?_)
    · clear F N
      rintro s5 j v ys n5 I5 oI5 C5 oC5 D5 m5 h5 tk5 E5 hj ⟨e, he, hv5⟩ ⟨rfl, rfl⟩ hs5 hC5 hx5 F5 N5 off5 ne5
      obtain ⟨e, he5, rfl⟩ : ∃ e', kx[j]? = some e' ∧ (e'.key, e'.ka, Value.ref e'.u) = e := by
        rw [knTab, List.getElem?_map] at he
        exact Option.map_eq_some_iff.mp he
      have hek := List.mem_of_getElem? he5
      replace hv5 : v = .ref e.ka := hv5
      subst hv5
      have T5 : TabAt prog w ((I5, oI5) :: (C5, oC5) :: (D5, LCg.lst (((kx.take j).filter (fun e => e.u == k.u)).map fun e => Value.ref e.ka)) :: n5) kn okn (knTab kx) := TW.mono (.tail _ (.tail _ (.tail _ TW.mem))) fun x hx => (TW.keys x hx).mono fun o ho => .tail _ (.tail _ (.tail _ ho))
      have mk5 : KeyIn prog w ((I5, oI5) :: (C5, oC5) :: (D5, LCg.lst (((kx.take j).filter (fun e => e.u == k.u)).map fun e => Value.ref e.ka)) :: n5) e.key e.ka := T5.keys _ (List.mem_map_of_mem hek)
      have hat : atKey (knTab kx) e.key = some (e.ka, .ref e.u) := atKey_of_mem TK.tab.nodup (mem_knTab.mpr ⟨e, hek, rfl, rfl⟩)
      obtain ⟨od1, I1⟩ := ((hI e hek).mono (fun o ho => msub _ ho) fun o ho => msub _ ho).at (sub (news' := n5) N5 fun q hq => .tail _ (.tail _ (.tail _ hq)))
      obtain ⟨od2, I2⟩ := ((hI k hkk).mono (fun o ho => msub _ ho) fun o ho => msub _ ho).at (sub (news' := n5) N5 fun q hq => .tail _ (.tail _ (.tail _ hq)))
      have k3 := X'.keeps F5.keep
      have hft : (kx.take (j + 1)).filter (fun e => e.u == k.u) = (kx.take j).filter (fun e => e.u == k.u) ++ (if e.u == k.u then [e] else []) := by
        rw [List.take_add_one, he5, List.filter_append]
        cases h : (e.u == k.u) <;> simp [List.filter_cons, h]
      by_cases hue : e.u = k.u
      · rw [hue] at I1 hat
        k_steps
        refine go (same_eq k3 I1 (by k_is) (by k_is) (units0 (by omega)) ?_)
        k_steps
        refine go (cturn _ F5 N5 (fun p hp => hp) off5 (fun p hp => by rw [List.mem_singleton.mp hp]; exact TW.mem) ⟨rfl, ?_⟩)
        rw [hft, if_pos (by simp [hue]), List.map_append]; rfl
      · k_steps
        refine go (other_eq k3 I1 I2 hue (by k_is) (by k_is) (units0 (by omega)) ?_)
        k_steps
        refine go (cturn _ F5 N5 (fun p hp => hp) off5 (fun p hp => by rw [List.mem_singleton.mp hp]; exact TW.mem) ⟨rfl, ?_⟩)
        rw [hft, if_neg (by simp [hue]), List.append_nil]
    · rintro h5 ys n5 ⟨rfl, rfl⟩ hm5 D6 h6 tk6 F6 N6 off6
      clear F N
      rw [show (knTab kx).length = kx.length from List.length_map .., List.take_length, filter_one hn hkk] at N6
      subst hW
      have o6 := off1_mem off6
      refine cturnC ((D6, LCg.lst [Value.ref k.ka]) :: N1) F6 N6 ?_ dc1 ?_ ?_ ⟨ls ++ [D6], by rw [List.map_append]; rfl, ?_, ?_⟩
      · intro p hp
        rcases List.mem_cons.mp hp with rfl | hp
        · exact .tail _ (.head _)
        rcases List.mem_cons.mp hp with rfl | hp
        · exact .tail _ (.tail _ (.head _))
        rcases List.mem_cons.mp hp with rfl | hp
        · exact .tail _ (.tail _ (.tail _ (.head _)))
        rcases List.mem_cons.mp hp with rfl | hp
        · exact .tail _ (.tail _ (.tail _ (.tail _ (.head _))))
        rcases List.mem_cons.mp hp with rfl | hp
        · exact .head _
        · exact .tail _ (.tail _ (.tail _ (.tail _ (.tail _ hp))))
      · intro p hp
        rcases List.mem_cons.mp hp with rfl | hp
        · exact ⟨Ne.symm (o6 _ (.head _)), Ne.symm (o6 _ (.tail _ (.head _))), Ne.symm (o6 _ (.tail _ (.tail _ (.head _)))), Ne.symm (o6 _ (.tail _ (.tail _ (.tail _ (.head _)))))⟩
        · exact off1 p hp
      · intro p hp
        rw [List.mem_singleton.mp hp]
        exact .tail _ hm
      · exact fun p hp => .tail _ (hsub p hp)
      · rw [List.take_add_one, hki, List.map_append]
        exact (hnm.mono fun p hp => .tail _ hp).snoc ⟨_, .head _⟩
  · rintro ys N1 D h5 tk5 ⟨ls, rfl, hsub, hnm⟩ F5 N5 off5
    clear F N
    k_steps
    refine go (back F5 N5 fun F9 N9 => post D ls _ _ _ _ F9 N9 (fun p hp => .tail _ (hsub p (.tail _ hp))) (.head _) ?_)
    rw [List.length_map, List.take_length] at hnm
    exact hnm.mono fun p hp => .tail _ hp
end
end
section
open PySem.SeqAt
/-- what the ledger says of a value's data -/
def LR (h₀ : Heap) (L : Addr) (N : Led) (v : Value) (d : PyData) : Prop := ∀ h, News h₀ L h N → ∃ as, Reads h v d as
def LRs (h₀ : Heap) (L : Addr) (N : Led) (vs : List Value) (ds : List PyData) : Prop := ∀ h, News h₀ L h N → ∃ as, ReadsAll h vs ds as
section
variable {h₀ : Heap} {L a : Addr} {N N' : Led} {v : Value} {vs : List Value} {d : PyData} {ds : List PyData} {n : Nat} {i : Int} {t : Tok} {b : Bool}
theorem LR.mono (x : LR h₀ L N v d) (h : ∀ p ∈ N, p ∈ N') : LR h₀ L N' v d := fun hp n => x hp (sub n h)
theorem LRs.mono (x : LRs h₀ L N vs ds) (h : ∀ p ∈ N, p ∈ N') : LRs h₀ L N' vs ds := fun hp n => x hp (sub n h)
theorem LR.int : LR h₀ L N (.int i t) (.int i) := fun _ _ => ⟨_, .int i t⟩
theorem LR.bool : LR h₀ L N (.bool b) (.bool b) := fun _ _ => ⟨_, .bool b⟩
theorem LR.list (hm : (a, listOf vs.toArray n) ∈ N) (r : LRs h₀ L N vs ds) : LR h₀ L N (.ref a) (.list ds) := fun h nw => let ⟨_, x⟩ := r h nw; ⟨_, .list (nw.get hm) rfl rfl x⟩
theorem LR.tuple {o : Obj} {arr : Array Value} (hm : (a, o) ∈ N) (hc : o.cls = .type "tuple") (hd : o.data = .seq arr n) (r : LRs h₀ L N arr.toList ds) : LR h₀ L N (.ref a) (.tuple ds) := fun h nw => let ⟨_, x⟩ := r h nw; ⟨_, .tuple (nw.get hm) hc hd x⟩
theorem LRs.nil : LRs h₀ L N [] [] := fun _ _ => ⟨_, .nil⟩
theorem LRs.cons (x : LR h₀ L N v d) (r : LRs h₀ L N vs ds) : LRs h₀ L N (v :: vs) (d :: ds) := fun h nw => let ⟨_, a⟩ := x h nw; let ⟨_, b⟩ := r h nw; ⟨_, .cons a b⟩
theorem LRs.snoc_aux {h : Heap} {x : Value} {y : PyData} {cs : List Addr} (hx : Reads h x y cs) : ∀ {vs : List Value} {ds : List PyData} {as : List Addr}, ReadsAll h vs ds as → ∃ bs, ReadsAll h (vs ++ [x]) (ds ++ [y]) bs
  | _, _, _, .nil => ⟨_, .cons hx .nil⟩
  | _, _, _, .cons a r => let ⟨_, q⟩ := LRs.snoc_aux hx r; ⟨_, .cons a q⟩
theorem LRs.snoc (r : LRs h₀ L N vs ds) (x : LR h₀ L N v d) : LRs h₀ L N (vs ++ [v]) (ds ++ [d]) := fun h nw => let ⟨_, a⟩ := r h nw; let ⟨_, b⟩ := x h nw; LRs.snoc_aux b a
theorem LRs.ints {ns : List Int} (hi : IntsAre vs ns) : LRs h₀ L N vs (ns.map .int) := by
  induction hi with
  | nil => exact .nil
  | cons n t _ ih => exact .cons .int ih
theorem canAll : ∀ {ds : List PyData}, (∀ d ∈ ds, d.canLay0 = true) → PyData.canLayAll0 ds = true
  | [], _ => rfl
  | d :: r, h => by
    rw [PyData.canLayAll0, h d (.head _), canAll fun x hx => h x (.tail _ hx)]; rfl
theorem depthAll_le : ∀ {ds : List PyData} {k : Nat}, (∀ d ∈ ds, d.depth ≤ k) → PyData.depthAll ds ≤ k
  | [], _, _ => Nat.zero_le _
  | d :: r, k, h => by
    rw [PyData.depthAll]
    exact Nat.max_le.mpr ⟨h d (.head _), depthAll_le fun x hx => h x (.tail _ hx)⟩
theorem shaped_list {k : Nat} (h : ∀ d ∈ ds, d.canLay0 = true ∧ d.depth ≤ k) (hk : k + 1 ≤ 64) : shaped (.list ds) = true := by
  unfold shaped
  rw [Bool.and_eq_true]
  refine ⟨canAll fun d hd => (h d hd).1, decide_eq_true ?_⟩
  rw [PyData.depth]
  have := depthAll_le fun d hd => (h d hd).2
  omega
end
section
variable {prog : Program} {w : World} {A : Around} {E : Value → Shared → Prop} {s : Shared} {h₀ : Heap} {L : Addr} {N : Led} {a b : Value} {d d' : PyData} {Q : Value → Shared → Prop}
theorem eq_LR (n : News h₀ L s.heap N) (ra : LR h₀ L N a d) (rb : LR h₀ L N b d) (hs : shaped d = true) (hu : A.units + 64 < cLine) (h : Q (.bool true) s) : wpAny (model prog w) A (compareOp .Eq a b) Q E s := by
  obtain ⟨_, xa⟩ := ra _ n
  obtain ⟨_, xb⟩ := rb _ n
  refine eq_dataH xa xb hs hs hu ?_
  rw [SeqAt.eqv_refl d (canLay_of_shaped hs)]; exact h
theorem ne_LR (n : News h₀ L s.heap N) (ra : LR h₀ L N a d) (rb : LR h₀ L N b d) (hs : shaped d = true) (hu : A.units + 64 < cLine) (h : Q (.bool false) s) : wpAny (model prog w) A (compareOp .NotEq a b) Q E s := by
  obtain ⟨_, xa⟩ := ra _ n
  obtain ⟨_, xb⟩ := rb _ n
  refine ne_dataH xa xb hs hs hu ?_
  rw [SeqAt.eqv_refl d (canLay_of_shaped hs)]; exact h
/-- a list of ints against the empty list -/
theorem eq_nil {vs : List Value} {ns : List Int} {l e : Addr} {n₁ n₂ : Nat} {b : Bool} (n : News h₀ L s.heap N) (hm : (l, listOf vs.toArray n₁) ∈ N) (he : (e, listOf #[] n₂) ∈ N) (hi : IntsAre vs ns) (hb : ns.isEmpty = b) (hu : A.units + 64 < cLine) (h : Q (.bool b) s) :
    wpAny (model prog w) A (compareOp .Eq (.ref l) (.ref e)) Q E s := by
  obtain ⟨_, xa⟩ := LR.list (h₀ := h₀) (L := L) hm (LRs.ints hi) _ n
  obtain ⟨_, xb⟩ := LR.list (h₀ := h₀) (L := L) (vs := []) (ds := []) he LRs.nil _ n
  refine eq_dataH xa xb (shaped_list (k := 1) (fun d hd => by obtain ⟨i, _, rfl⟩ := List.mem_map.mp hd; exact ⟨rfl, by rw [PyData.depth] <;> first | omega | (intros; simp)⟩) (by decide)) rfl hu ?_
  have : PyData.eqv (.list (ns.map .int)) (.list []) = b := by
    subst hb
    cases ns <;> rfl
  rw [this]; exact h
theorem ne_nil {vs : List Value} {ns : List Int} {l e : Addr} {n₁ n₂ : Nat} {b : Bool} (n : News h₀ L s.heap N) (hm : (l, listOf vs.toArray n₁) ∈ N) (he : (e, listOf #[] n₂) ∈ N) (hi : IntsAre vs ns) (hb : (!ns.isEmpty) = b) (hu : A.units + 64 < cLine) (h : Q (.bool b) s) :
    wpAny (model prog w) A (compareOp .NotEq (.ref l) (.ref e)) Q E s := by
  obtain ⟨_, xa⟩ := LR.list (h₀ := h₀) (L := L) hm (LRs.ints hi) _ n
  obtain ⟨_, xb⟩ := LR.list (h₀ := h₀) (L := L) (vs := []) (ds := []) he LRs.nil _ n
  refine ne_dataH xa xb (shaped_list (k := 1) (fun d hd => by obtain ⟨i, _, rfl⟩ := List.mem_map.mp hd; exact ⟨rfl, by rw [PyData.depth] <;> first | omega | (intros; simp)⟩) (by decide)) rfl hu ?_
  have : (!PyData.eqv (.list (ns.map .int)) (.list [])) = b := by
    subst hb
    cases ns <;> rfl
  rw [this]; exact h
theorem item_Tup {value slice : PySem.Expr} {p t : Int} {ok : Obj} {ka : Addr} {u : Tok} (n : News h₀ L s.heap N) (hm : (ka, ok) ∈ N) (tk : TupKeyObj (intKind prog w) [p, t] ok) (h : ∀ t, Q (.int p t) s)
    (hs : subscripted slice false (.ref ka) (.int 0 u) = operate [.ref ka, .int 0 u] (getItem (.ref ka) (.int 0 u)) := by with_unfolding_all rfl) :
    wpAny (model prog w) A (subscriptTail value slice (.ref ka) (.int 0 u)) Q E s := by
  obtain ⟨hc, ⟨items⟩, c, hd, hit⟩ := tk
  cases hit with
  | cons h1 h2 =>
    cases h2 with
    | cons h3 h4 =>
      cases h4
      obtain ⟨t1, rfl⟩ := Value.isInt_shape h1
      exact item_tupleT (l := [_, _]) (j := 0) (x := .int p t1) ⟨_, n.get hm, hc, c, hd⟩ (by decide) (by decide) (by rfl) (by rfl) (h t1) hs
theorem LR.key {p t : Int} {ok : Obj} {ka : Addr} (hm : (ka, ok) ∈ N) (tk : TupKeyObj (intKind prog w) [p, t] ok) : LR h₀ L N (.ref ka) (.tuple [.int p, .int t]) := by
  obtain ⟨hc, ⟨items⟩, c, hd, hit⟩ := tk
  refine .tuple hm hc hd ?_
  cases hit with
  | cons h1 h2 =>
    cases h2 with
    | cons h3 h4 =>
      cases h4
      obtain ⟨t1, rfl⟩ := Value.isInt_shape h1
      obtain ⟨t2, rfl⟩ := Value.isInt_shape h3
      exact .cons .int (.cons .int .nil)
end

theorem desc_same {a b : List Int} (hp : a.Perm b) (ha : a.Pairwise (fun x y => y ≤ x)) (hb : b.Pairwise (fun x y => y ≤ x)) : a = b := by
  have := ksm_same ((List.reverse_perm a).trans (hp.trans (List.reverse_perm b).symm)) (List.pairwise_reverse.mpr ha) (List.pairwise_reverse.mpr hb)
  simpa using congrArg List.reverse this
/-- two lists without repetition and with the same members -/
theorem perm_of : ∀ {a b : List Int}, a.Nodup → b.Nodup → (∀ x, x ∈ a ↔ x ∈ b) → a.Perm b
  | [], b, _, _, h => by
    cases b with
    | nil => exact .nil
    | cons y r => exact absurd ((h y).mpr (.head _)) (by simp)
  | x :: r, b, ha, hb, h => by
    rw [List.nodup_cons] at ha
    have hx : x ∈ b := (h x).mp (.head _)
    have h1 : (x :: b.erase x).Perm b := (List.perm_cons_erase hx).symm
    refine (List.Perm.cons x (perm_of ha.2 (hb.erase x) fun y => ?_)).trans h1
    rw [hb.mem_erase_iff]
    constructor
    · intro hy
      exact ⟨fun e => ha.1 (e ▸ hy), (h y).mp (.tail _ hy)⟩
    · rintro ⟨hne, hy⟩
      rcases List.mem_cons.mp ((h y).mpr hy) with rfl | hy
      · exact absurd rfl hne
      · exact hy
theorem shaped_ints {ns : List Int} : shaped (.list (ns.map .int)) = true :=
  shaped_list (k := 1) (fun d hd => by obtain ⟨i, _, rfl⟩ := List.mem_map.mp hd; exact ⟨rfl, by rw [PyData.depth] <;> first | omega | (intros; simp)⟩) (by decide)
theorem nodup_of_map {α β : Type} {f : α → β} {l : List α} (h : (l.map f).Nodup) : l.Nodup := by
  unfold List.Nodup at h ⊢
  exact (List.pairwise_map.mp h).imp fun hn e => hn (congrArg f e)
theorem LRs.map {α : Type} {h₀ : Heap} {L : Addr} {N : Led} {f : α → Value} {g : α → PyData} : ∀ {l : List α}, (∀ x ∈ l, LR h₀ L N (f x) (g x)) → LRs h₀ L N (l.map f) (l.map g)
  | [], _ => .nil
  | x :: r, h => .cons (h x (.head _)) (LRs.map fun y hy => h y (.tail _ hy))
theorem shaped_bools {α : Type} {f : α → Bool} {l : List α} : shaped (.list (l.map fun x => .bool (f x))) = true :=
  shaped_list (k := 1) (fun d hd => by obtain ⟨i, _, rfl⟩ := List.mem_map.mp hd; exact ⟨rfl, by rw [PyData.depth] <;> first | omega | (intros; simp)⟩) (by decide)
theorem shaped_pairs {α : Type} {f : α → Int} {g : α → Bool} {l : List α} : shaped (.list (l.map fun x => .tuple [.int (f x), .bool (g x)])) = true :=
  shaped_list (k := 3) (fun d hd => by obtain ⟨i, _, rfl⟩ := List.mem_map.mp hd; exact ⟨rfl, by simp [PyData.depth, PyData.depthAll]⟩) (by decide)
/-- what an entry is worth -/
def worth (ns : List Int) (e : En) : Int := match e.c with
  | none => ns.getD e.p.toNat 0
  | some (.int i _) => i
  | some _ => 0
abbrev entryD (ns : List Int) (e : En) : PyData := .tuple [.int (worth ns e), .bool e.c.isNone]
theorem ints_at : ∀ {vs : List Value} {ns : List Int} {i : Nat}, IntsAre vs ns → i < vs.length → ∃ t, vs[i]? = some (.int (ns.getD i 0) t)
  | _, _, i, .nil, h => absurd h (Nat.not_lt_zero _)
  | _, _, 0, .cons n t _, _ => ⟨t, rfl⟩
  | _, _, i + 1, .cons n t r, h => ints_at (i := i) r (by simpa using h)
end
section
/-- a ground beside the lives -/
structure HI (w : World) (tms : Int → Int) (g dg st ou kn lf pl : Addr) (vals : List Value) (ns : List Int) (N : Led) (ups : List Up) (kx : List Kn) (lx : List En) : Prop where
  fi : FI w tms g dg st ou kn lf vals.length N ups kx lx
  stk : LiAt N st vals
  pln : LiAt N pl vals
  iv : IntsAre vals ns
  nd : (ups.map (·.d)).Nodup
  ne : st ≠ ou
  opn : ∀ e ∈ lx, (e.c = none ↔ e.t = tms e.p)
  ex : ∀ e ∈ lx, ∃ k ∈ kx, k.key = e.key ∧ ∀ v, e.c = some v → UpAt w.params N k.u k.d .none (-1) v ∧ ∃ i t, v = .int i t
  all : ∀ k ∈ kx, ∃ e ∈ lx, e.key = k.key
  le : ∀ e ∈ lx, e.t ≤ tms e.p
theorem FI.mono {w : World} {tms : Int → Int} {g dg st ou kn lf : Addr} {vlen : Nat} {N N' : Led} {ups : List Up} {kx : List Kn} {lx : List En} (I : FI w tms g dg st ou kn lf vlen N ups kx lx) (s : ∀ p ∈ N, p ∈ N') : FI w tms g dg st ou kn lf vlen N' ups kx lx where
  gr := I.gr.mono (fun _ h => s _ h) fun _ h => s _ h
  li := I.li.mono fun _ h => s _ h
  ops := fun x hx => (I.ops x hx).mono (fun _ h => s _ h) fun _ h => s _ h
  kt := let ⟨o, T⟩ := I.kt; ⟨o, T.mono (s _ T.mem) fun x hx => (T.keys x hx).mono fun _ h => s _ h⟩
  lt := let ⟨o, T⟩ := I.lt; ⟨o, T.mono (s _ T.mem) fun x hx => (T.keys x hx).mono fun _ h => s _ h⟩
  ins := fun k hk => (I.ins k hk).mono (fun _ h => s _ h) fun _ h => s _ h
  las := fun e he => (I.las e he).mono fun _ h => s _ h
  sorted := I.sorted
  rng := I.rng
  vl := I.vl
  kl := I.kl
  ll := I.ll
  r1 := I.r1
  r2 := I.r2
  r3 := I.r3
  a1 := I.a1
  a2 := I.a2
  a3 := I.a3
  a4 := I.a4
theorem HI.mono {w : World} {tms : Int → Int} {g dg st ou kn lf pl : Addr} {vals : List Value} {ns : List Int} {N N' : Led} {ups : List Up} {kx : List Kn} {lx : List En} (H : HI w tms g dg st ou kn lf pl vals ns N ups kx lx) (s : ∀ p ∈ N, p ∈ N') : HI w tms g dg st ou kn lf pl vals ns N' ups kx lx where
  fi := H.fi.mono s
  stk := H.stk.mono fun _ h => s _ h
  pln := H.pln.mono fun _ h => s _ h
  iv := H.iv
  nd := H.nd
  ne := H.ne
  opn := H.opn
  ex := fun e he => let ⟨k, h1, h2, h3⟩ := H.ex e he; ⟨k, h1, h2, fun v hv => ⟨(h3 v hv).1.mono (fun _ h => s _ h) fun _ h => s _ h, (h3 v hv).2⟩⟩
  all := H.all
  le := H.le
theorem HI.cint {w : World} {tms : Int → Int} {g dg st ou kn lf pl : Addr} {vals : List Value} {ns : List Int} {N : Led} {ups : List Up} {kx : List Kn} {lx : List En} (H : HI w tms g dg st ou kn lf pl vals ns N ups kx lx) {e : En} (he : e ∈ lx) :
    ∃ cs, IntsAre e.c.toList cs ∧ cs.isEmpty = e.c.isNone := by
  obtain ⟨k, _, _, h⟩ := H.ex e he
  cases hc : e.c with
  | none => exact ⟨[], .nil, rfl⟩
  | some v =>
    obtain ⟨_, i, t, rfl⟩ := h v hc
    exact ⟨[i], .cons i t .nil, rfl⟩
/-- the places of the open entries -/
abbrev opens (lx : List En) : List Int := (lx.filter (fun e => e.c.isNone)).map (·.p)
theorem HI.opens_perm {w : World} {tms : Int → Int} {g dg st ou kn lf pl : Addr} {vals : List Value} {ns : List Int} {N : Led} {ups : List Up} {kx : List Kn} {lx : List En} (H : HI w tms g dg st ou kn lf pl vals ns N ups kx lx) :
    (opens lx).Perm (ups.map (·.ix)) := by
  obtain ⟨olf, TL⟩ := H.fi.lt
  have hn := TL.tab.nodup
  have op : ∀ e ∈ lx.filter (fun e => e.c.isNone), e ∈ lx ∧ e.t = tms e.p := fun e he => by
    have h1 := List.mem_filter.mp he
    exact ⟨h1.1, (H.opn e h1.1).mp (by simpa using h1.2)⟩
  refine perm_of ?_ ?_ fun x => ?_
  · rw [lfTab, List.map_map] at hn
    have hs : (lx.filter (fun e => e.c.isNone)).map (·.key) |>.Nodup := (List.filter_sublist.map _).nodup hn
    have : (lx.filter (fun e => e.c.isNone)).map (·.key) = (opens lx).map fun p => [p, tms p] := by
      rw [opens, List.map_map]
      exact List.map_congr_left fun e he => by show [e.p, e.t] = [e.p, tms e.p]; rw [(op e he).2]
    rw [this] at hs
    exact nodup_of_map hs
  · have := H.fi.sorted
    rw [List.nodup_iff_pairwise_ne, List.pairwise_map]
    exact this.imp fun h e => by omega
  · constructor
    · intro hx
      obtain ⟨e, he, rfl⟩ := List.mem_map.mp hx
      obtain ⟨h1, h2⟩ := op e he
      obtain ⟨k, k1, k2, _⟩ := H.ex e h1
      injection k2 with e1 e2; injection e2 with e2 _
      obtain ⟨y, y1, y2, _⟩ := H.fi.r3 k k1 (by rw [e2, e1, h2])
      exact List.mem_map.mpr ⟨y, y1, by rw [y2, e1]⟩
    · intro hx
      obtain ⟨y, hy, rfl⟩ := List.mem_map.mp hx
      obtain ⟨k, k1, k2, k3, _⟩ := H.fi.r1 y hy
      obtain ⟨e, e1, e2⟩ := H.all k k1
      injection e2 with a1 a2; injection a2 with a2 _
      refine List.mem_map.mpr ⟨e, List.mem_filter.mpr ⟨e1, ?_⟩, by rw [a1, k2]⟩
      have := (H.opn e e1).mpr (by rw [a2, a1, k2, k3])
      simp [this]
theorem HI.opens_len {w : World} {tms : Int → Int} {g dg st ou kn lf pl : Addr} {vals : List Value} {ns : List Int} {N : Led} {ups : List Up} {kx : List Kn} {lx : List En} (H : HI w tms g dg st ou kn lf pl vals ns N ups kx lx) : (opens lx).length ≤ 60 := by
  rw [H.opens_perm.length_eq, List.length_map]
  exact Nat.le_trans (ups_len H.fi.sorted H.fi.rng) H.fi.vl
end
section
theorem lay_MHolds : True := by
  k_with_none
  k_with "execs cons" => ((first | (with_reducible show wpAny _ _ (execs _ _) (CutR _) _ _) | (refine cutQ ?_; intro cutR cutH)); refine wpAny_execs_cons ?_; refine cutQ ?_; intro cutR cutH)
  k_with "CutR" => ((first | (refine Cut.go cutH _ _ ?_; (try clear cutH); (try clear cutR)) | refine Cut.go (by assumption) _ _ ?_); (try dsimp only))
  k_with "exec While" => refine stop ?_
  k_with "Back" => refine stop ?_
  k_with "WhileStep" => refine stop ?_
  k_with "call builtin:len" => (k_here; (with_reducible show wpAny _ _ (call (Value.builtin "len") [Value.ref _]) _ _ _); k_dflt (refine' len_L (by k_asm) (by k_mem) (by first | exact List.length_map _ | exact rfl) (by omega) ?_); intro _ _)
  k_with "subscriptTail" => (k_here; (with_reducible show wpAny _ _ (subscriptTail _ _ (Value.ref _) (Value.int _ _)) _ _ _); k_dflt (refine' item_L (by k_asm) (by k_mem) (by first | exact at_refs (by assumption) | assumption | exact rfl) (by omega) ?_ (by with_unfolding_all rfl)))
  k_with "call builtin:list.insert" => (k_here; (with_reducible show wpAny _ _ (call (Value.builtin _) [Value.ref _, Value.int _ _, _]) _ _ _); k_dflt (refine' insert_L (by k_asm) (by k_asm) ?_ ?_ (by k_upd) ?_; (first | assumption | (simp only [List.length_map]; first | assumption | omega)); (simp only [List.length_map]; omega)); intro _ _ _; (try k_sweep))
  k_with "call builtin:list.pop" => (k_here; (with_reducible show wpAny _ _ (call (Value.builtin _) [Value.ref _, Value.int _ _]) _ _ _); k_dflt (refine' pop0_L (by k_asm) (by k_asm) ?_ (by k_upd) ?_; (simp only [List.length_map]; omega)); intro _ _ _; (try k_sweep))
  k_with "call builtin:list.append" => (k_here; (with_reducible show wpAny _ _ (call (Value.builtin _) [Value.ref _, _]) _ _ _); k_dflt (refine' append_L (by k_asm) (by k_asm) ?_ (by k_upd) ?_; (first | omega | (simp only [List.length_map]; omega) | (simp; omega))); intro _ _ _; (try k_sweep))
  k_with "setAttr ref" => (k_here; k_dflt (refine' set_dict (by k_asm) (by k_asm) (by k_asm) (by k_inst) (by exact rfl) (by k_is) (by k_is) (by k_is) (by k_is) (by k_get) (by first | exact put_value | exact put_thread | exact put_index) (by k_upd) (by exact Nat.le_of_ble_eq_true rfl) ?_; k_whole; intro _ _ _; (try k_sweep)))
  k_with "setItem ref int" => (k_here; (with_reducible show wpAny _ _ (setItem (Value.ref _) (Value.int _ _) _) _ _ _); k_dflt (refine' set_L (by k_asm) (by k_asm) (by k_upd) (by first | assumption | omega | (constructor <;> omega)) (by first | omega | (simp only [List.length_map]; omega)) ?_); intro _ _ _; (try k_sweep))
  k_with "exec For Name Attribute cons nil" => refine stop ?_
  k_with "exec For Name Name cons nil" => refine stop ?_
  k_with "TurnE" => refine stop ?_
  k_with "eval ListComp" => refine stop ?_
  k_with "exec Assign cons ListComp" => refine stop ?_
  k_with "CTurn" => refine stop ?_
  k_with "FinE" => refine stop ?_
  k_with "FinA" => refine stop ?_
  k_with "getMethod ref" => (k_here; (with_reducible show wpAny _ _ (getMethod (Value.ref _) (Str.ofString "get") _) _ _ _); k_dflt (refine' times_method (by k_asm) (by k_mem) (by k_asm) ?_))
  k_with "getMethod ref" => (k_here; (with_reducible show wpAny _ _ (getMethod (Value.ref _) (Str.ofString "setdefault") _) _ _ _); k_dflt (refine' tab_method PySem.F.slot_dict_setdefault PySem.F.type_dict_setdefault (by k_asm) (by k_asm) ?_))
  k_with "getMethod ref" => (k_here; (with_reducible show wpAny _ _ (getMethod (Value.ref _) (Str.ofString "values") _) _ _ _); k_dflt (refine' tab_method PySem.F.slot_dict_values PySem.F.type_dict_values (by k_asm) (by k_asm) ?_))
  k_with "call builtin:dict.get" => (k_here; k_dflt (refine' times_get (by k_asm) (by k_mem) (by k_asm) (by k_asm) ?_); intro _ _)
  k_with "call builtin:dict.setdefault" => refine stop ?_
  k_with "storeName" => (k_here; k_dflt (refine' storeC (by k_asm) (by k_asm) (by rfl) (by k_mem) (by k_asm) ?_ (by rfl) (by rfl)); refine stop ?_)
  k_with "setItem ref ref" => refine stop ?_
  k_with "compareOp NotEq ref ref" => refine stop ?_
  k_with "compareOp Eq ref ref" => refine stop ?_
  k_with "compareOp In ref ref" => (k_here; k_dflt (refine' in_T (by exact units1 (by omega)) (by k_asm) (by k_asm) (by k_asm) (by first | k_asm | exact rfl) ?_); intro _)
  k_with "subscriptTail" => (k_here; (with_reducible show wpAny _ _ (subscriptTail _ _ (Value.ref _) (Value.ref _)) _ _ _); k_dflt (refine' item_T (by exact units1 (by omega)) (by k_asm) (by k_asm) (by k_asm) (by k_asm) ?_ (by with_unfolding_all rfl) (by intro _; with_unfolding_all rfl)); intro _; (try dsimp only))
  k_with "call builtin:dict.values" => (k_here; k_dflt (refine' values_T (by k_asm) (by k_asm) (by k_asm) ?_); intro _ _ _ _ _)
  k_with "CTurnC" => refine stop ?_
  k_with "call builtin:sorted" => refine stop ?_
  k_with "subscriptTail Name Slice ref ref" => refine stop ?_
  trivial
--@hide
theorem lay_MHolds1 : True := by
  k_with "call ref" => ((first | (with_reducible show wpAny _ _ (call (Value.ref 153) _) _ _ _) | (with_reducible show wpAny _ _ (call (Value.ref 146) _) _ _ _) | (with_reducible show wpAny _ _ (call (Value.ref 64) _) _ _ _)); refine stop ?_)
  k_with "subscriptTail" => (k_here; (with_reducible show wpAny _ _ (subscriptTail _ _ (Value.ref _) (Value.int 0 _)) _ _ _); k_dflt (refine' item_Tup (by k_asm) (by k_mem) (by k_asm) ?_ (by with_unfolding_all rfl)); intro _)
  trivial
section
variable {w : World} {loose : List Str} {mean : ExcName → Option Value} {mg mb : Str → Option Value} {dp un : Nat} {gd : Option (List Code)} {cn : Str} {cs : Scope} {a : Addr} {ccd : Value} {cl : List (Str × Addr)} {outer : List Env} {A₀ : Around} {base h₀ : Heap} {L : Addr} {m : Str → Option Value} {s : Shared} {Q E : Value → Shared → Prop} {news : Led}
theorem holds_spec {tms : Int → Int} {g dg st ou kn lf pl : Addr} {vals : List Value} {ns : List Int} {ups : List Up} {kx : List Kn} {lx : List En}
    (B : Below A₀ base outer h₀) (F : Fr h₀ L s.heap m) (X : (Mine.Hd.top.heap_1 w.params).In h₀) (N : News h₀ L s.heap news) (T : Top VW loose mean mg mb h₀) (hk : cs.kind = .function) (hd : dp ≤ 440) (hu : un ≤ 400)
    (H : HI w tms g dg st ou kn lf pl vals ns news ups kx lx)
    (post : ∀ h' tk', Fr h₀ L h' m → News h₀ L h' news → Q (.bool true) { s with heap := h', toks := tk' }) :
    wpAny (model prog w) (ktrTop dp un gd cn cs L a ccd cl outer) (call (.ref 175) [.ref g, .ref kn, .ref lf, .ref pl]) Q E s := by
  refine enterC (f := 175) (binds := [(Str.ofString "ground", .ref g), (Str.ofString "known", .ref kn), (Str.ofString "life", .ref lf), (Str.ofString "plain", .ref pl)]) B F X N T hk (by omega) (by k_is) (by k_is) (by rfl) (by rfl) (by decide +kernel) (by rfl) (by rfl) (by rfl) ?_
  clear F N
  intro g' L' h₁ tk cells F N Y B' X' T' l1
  k_cells Y
  simp only [List.cons_append, List.nil_append] at N
  rename_i o5 o4 o3 o2 o1 d5 d4 d3 d2 d1
  replace d5 : o5.data = .cell none := d5
  replace d4 : o4.data = .cell (some (.ref pl)) := d4
  replace d3 : o3.data = .cell (some (.ref lf)) := d3
  replace d2 : o2.data = .cell (some (.ref kn)) := d2
  replace d1 : o1.data = .cell (some (.ref g)) := d1
  replace F : Fr g' L' h₁ (fun _ => none) := F
  have q : ∀ p ∈ news, p.1 ≠ L' + 1 + 1 + 1 + 1 + 1 := fun p hp => Nat.ne_of_lt (Nat.lt_add_right 4 (Nat.lt_succ_of_lt (l1 p hp)))
  generalize hNL : (L' + 1 + 1 + 1 + 1 + 1, o5) :: (L' + 1 + 1 + 1 + 1, o4) :: (L' + 1 + 1 + 1, o3) :: (L' + 1 + 1, o2) :: (L' + 1, o1) :: news = NL at N
  have m5 : (L' + 1 + 1 + 1 + 1 + 1, o5) ∈ NL := hNL ▸ .head _
  have m4 : (L' + 1 + 1 + 1 + 1, o4) ∈ NL := hNL ▸ .tail _ (.head _)
  have m3 : (L' + 1 + 1 + 1, o3) ∈ NL := hNL ▸ .tail _ (.tail _ (.head _))
  have m2 : (L' + 1 + 1, o2) ∈ NL := hNL ▸ .tail _ (.tail _ (.tail _ (.head _)))
  have m1 : (L' + 1, o1) ∈ NL := hNL ▸ .tail _ (.tail _ (.tail _ (.tail _ (.head _))))
  have sb : ∀ p ∈ news, p ∈ NL := fun p hp => hNL ▸ .tail _ (.tail _ (.tail _ (.tail _ (.tail _ hp))))
  clear hNL
  have H0 := H
  replace H := H.mono sb
  k_steps
  refine go (comp_E_T (by assumption) (by with_unfolding_all rfl) (by decide) (by rfl) (by decide) (by rfl) ?_)
  k_steps
  obtain ⟨olf, TL⟩ := H.fi.lt
  have hll := H.fi.ll
  refine go (comp_keys_T (fun j ys n => n = NL ∧ IntsAre ys (((lx.take j).filter (fun e => e.c.isNone)).map (·.p))) rfl F N TL (by rw [lfTab, List.length_map]; omega) ⟨rfl, .nil⟩ ?_ ?_)
  · clear F N
    rintro s5 j v ys n5 I5 oI5 C5 oC5 D5 m5 h5 tk5 E5 hj ⟨e, he, hv5⟩ ⟨rfl, hys⟩ hs5 hC5 hx5 F5 N5 off5 ne5
    obtain ⟨e, he5, rfl⟩ : ∃ e', lx[j]? = some e' ∧ (e'.key, e'.ka, Value.ref e'.la) = e := by
      rw [lfTab, List.getElem?_map] at he
      exact Option.map_eq_some_iff.mp he
    have hem := List.mem_of_getElem? he5
    replace hv5 : v = .ref e.ka := hv5
    subst hv5
    have T5 : TabAt prog w ((I5, oI5) :: (C5, oC5) :: (D5, LCg.lst ys) :: n5) lf olf (lfTab lx) := TL.mono (.tail _ (.tail _ (.tail _ TL.mem))) fun x hx => (TL.keys x hx).mono fun o ho => .tail _ (.tail _ (.tail _ ho))
    have mk5 : KeyIn prog w ((I5, oI5) :: (C5, oC5) :: (D5, LCg.lst ys) :: n5) e.key e.ka := T5.keys _ (List.mem_map_of_mem hem)
    have hat : atKey (lfTab lx) e.key = some (e.ka, .ref e.la) := atKey_of_mem TL.tab.nodup (mem_lfTab.mpr ⟨e, hem, rfl, rfl⟩)
    refine hide fun gP gQ => ?_
    obtain ⟨cs5, hcs1, hcs2⟩ := H.cint hem
    obtain ⟨nla, hla⟩ := H.fi.las e hem
    obtain ⟨ok5, hok5, tup5⟩ := id mk5
    refine gQ ?_
    clear gQ gP
    have hft : ((lx.take (j + 1)).filter (fun e => e.c.isNone)).map (·.p) = ((lx.take j).filter (fun e => e.c.isNone)).map (·.p) ++ (if e.c.isNone then [e.p] else []) := by
      rw [List.take_add_one, he5, List.filter_append, List.map_append]
      cases h : e.c.isNone <;> simp [h]
    k_steps
    rename_i l5 hh5 F6 N6 lt6
    refine go (eq_nil N6 (.tail _ (.tail _ (.tail _ (.tail _ hla)))) (.head _) hcs1 hcs2 (units64 (by omega)) ?_)
    cases hc : e.c.isNone
    · k_steps
      refine go (cturn _ F6 N6 (fun p hp => .tail _ hp) off5 (fun p hp => by rw [List.mem_singleton.mp hp]; exact TL.mem) ⟨rfl, ?_⟩)
      rw [hft, hc]; simpa using hys
    · k_steps
      refine go (cturn _ F6 N6 (fun p hp => .tail _ hp) off5 (fun p hp => by rw [List.mem_singleton.mp hp]; exact TL.mem) ⟨rfl, ?_⟩)
      rw [hft, hc]; exact ksk_snoc hys
  · rintro h5 ys n5 ⟨rfl, hys⟩ hm5 D6 h6 tk6 F6 N6 off6
    clear F N
    rw [show (lfTab lx).length = lx.length from List.length_map .., List.take_length] at hys
    k_steps
    have hol := H.opens_len
    refine go (ksk_rev (b := true) F6 N6 (isList N6 (n := ys.length) (.head _)) hys (Nat.lt_of_le_of_lt hol (by decide)) fun D7 vs7 ns7 c7 h7 F7 N7 lt7 iv7 _ pm7 pw7 _ => ?_)
    have e7 : ns7 = ups.map (·.ix) := desc_same (pm7.trans H.opens_perm) (by simpa using pw7) (by rw [List.pairwise_map]; exact H.fi.sorted.imp fun h => by omega)
    subst e7
    clear F6 N6
    k_steps
    refine go ?_
    intro h8 o5' F8 N8 d5'
    clear F7 N7
    generalize hNL : (L' + 1 + 1 + 1 + 1 + 1, o5') :: _ = NL at N8
    have sb8 : ∀ p ∈ n5, p.1 ≠ L' + 1 + 1 + 1 + 1 + 1 → p ∈ NL := fun p hp hn => hNL ▸ .tail _ (mem_off_of (.tail _ (.tail _ hp)) hn)
    have mp : (D7, listOf vs7.toArray c7) ∈ NL := hNL ▸ .tail _ (mem_off_of (.head _) (Nat.ne_of_gt (lt7 _ (.tail _ m5))))
    replace m5 : (L' + 1 + 1 + 1 + 1 + 1, o5') ∈ NL := hNL ▸ .head _
    replace m4 := sb8 _ m4 (neN (by dsimp only; omega))
    replace m3 := sb8 _ m3 (neN (by dsimp only; omega))
    replace m2 := sb8 _ m2 (neN (by dsimp only; omega))
    replace m1 := sb8 _ m1 (neN (by dsimp only; omega))
    replace sb : ∀ p ∈ news, p ∈ NL := fun p hp => sb8 _ (sb p hp) (q p hp)
    clear hNL sb8 TL
    replace H := H0.mono sb
    refine hide fun gP gQ => ?_
    obtain ⟨hg1, τg, ng, hg2⟩ := id H.fi.gr
    obtain ⟨nst, hst⟩ := id H.stk
    obtain ⟨npl, hpln⟩ := id H.pln
    refine gQ ?_
    clear gQ gP
    k_steps
    refine go (ne_LR N8 (.list hst (.ints H.iv)) (.list hpln (.ints H.iv)) shaped_ints (units64 (by omega)) ?_)
    k_steps
    have hul := ups_len H.fi.sorted H.fi.rng
    have hvl := H.fi.vl
    refine go (check_spec B' F8 X' N8 T' rfl (by omega) (by omega) ⟨H.fi.gr, H.stk, H.fi.li, H.fi.ops, H.nd, H.ne, by omega, by omega, H.fi.rng⟩ H.fi.sorted fun h9 tk9 F9 N9 => ?_)
    clear F8 N8
    k_steps
    refine go (comp_E (by assumption) (by with_unfolding_all rfl) (by decide) (by rfl) (by decide) (by rfl) ?_)
    obtain ⟨nou, hou⟩ := id H.fi.li
    k_steps
    refine go (comp_list (fun j ys n => n = NL ∧ IntsAre ys ((ups.take j).map (·.ix))) rfl F9 N9 hou (by rw [List.length_map]; omega) ⟨rfl, .nil⟩ ?_ ?_)
    · clear F9 N9
      rintro s5 j v ys n5 I5 oI5 C5 oC5 D5 m5 h5 tk5 E5 hj hv5 ⟨rfl, hys⟩ hs5 hC5 hx5 F5 N5 off5 ne5
      obtain ⟨x, hx, rfl⟩ : ∃ x, ups[j]? = some x ∧ Value.ref x.u = v := by
        rw [List.getElem?_map] at hv5
        exact Option.map_eq_some_iff.mp hv5
      obtain ⟨hx1, τx, nx, hx2⟩ := H.fi.ops x (List.mem_of_getElem? hx)
      k_steps
      refine go (cturn _ F5 N5 (fun p hp => hp) off5 (fun p hp => by rw [List.mem_singleton.mp hp]; exact hou) ⟨rfl, ?_⟩)
      rw [List.take_add_one, hx, List.map_append]
      exact ksk_snoc hys
    · rintro h5 ys n5 ⟨rfl, hys⟩ hm5 D9 h9' tk9' F10 N10 off10
      clear F9 N9
      rw [show (refs ups).length = ups.length from List.length_map .., List.take_length] at hys
      k_steps
      refine go (ne_LR N10 (.list (n := ys.length) (.head _) (.ints hys)) (.list (.tail _ mp) (.ints iv7)) shaped_ints (units64 (by omega)) ?_)
      have N11 : News g' L' h9' n5 := sub N10 fun p hp => .tail _ hp
      clear N10
      k_steps
      refine go (comp_E (by assumption) (by with_unfolding_all rfl) (by decide) (by rfl) (by decide) (by rfl) ?_)
      k_steps
      rename IsRange _ _ _ _ _ _ _ _ => hr12
      rename Fr g' L' _ _ => F12
      rename News g' L' _ _ => N12
      refine go (comp_range (n := vals.length + 2) (fun j ys n => n = n5 ∧ ys = (List.range j).map fun (l : Nat) => Value.bool (hasOpen ups (l : Int))) rfl F12 N12 hr12 (by omega) (by omega) ⟨rfl, rfl⟩ ?_ ?_)
      · clear F12 N12 hr12
        rintro s6 j v ys n6 I5 oI5 C5 oC5 D5 m6 h6 tk6 E6 hj ⟨t6, rfl⟩ ⟨rfl, rfl⟩ hs6 hC6 hx6 F6 N6 off6 ne6
        have upw : ∀ p ∈ n6, p ∈ (I5, oI5) :: (C5, oC5) :: (D5, LCg.lst ((List.range j).map fun (l : Nat) => Value.bool (hasOpen ups (l : Int)))) :: n6 := fun p hp => .tail _ (.tail _ (.tail _ hp))
        k_steps
        refine go (hasOpen_spec B' F6 X' N6 T' rfl (by omega) (by omega) (H.fi.mono upw).gr (H.fi.mono upw).li (by omega) (H.fi.mono upw).ops fun h7 tk7 F7 N7 => ?_)
        clear F6 N6
        k_steps
        refine go (cturn _ F7 N7 (fun p hp => hp) off6 (fun _ h => nomatch h) ⟨rfl, ?_⟩)
        rw [List.range_succ, List.map_append, Int.zero_add]; rfl
      · rintro h6 ys n6 ⟨rfl, rfl⟩ D13 h13 tk13 F13 N13 off13
        clear F12 N12 hr12
        k_steps
        refine go (comp_E (by assumption) (by with_unfolding_all rfl) (by decide) (by rfl) (by decide) (by rfl) ?_)
        k_steps
        rename IsRange _ _ _ _ _ _ _ _ => hr14
        rename Fr g' L' _ _ => F14
        rename News g' L' _ _ => N14
        refine go (comp_range (n := vals.length + 2) (fun j ys n => n = (D13, LCg.lst ((List.range (vals.length + 2)).map fun (l : Nat) => Value.bool (hasOpen ups (l : Int)))) :: n6 ∧ ys = (List.range j).map fun (l : Nat) => Value.bool (hasOpen ups (l : Int))) rfl F14 N14 hr14 (by omega) (by omega) ⟨rfl, rfl⟩ ?_ ?_)
        · clear F14 N14 hr14
          rintro s7 j v ys n7 I5 oI5 C5 oC5 D5 m7 h7 tk7 E7 hj ⟨t7, rfl⟩ ⟨rfl, rfl⟩ hs7 hC7 hx7 F7 N7 off7 ne7
          have upw : ∀ p ∈ n6, p ∈ (I5, oI5) :: (C5, oC5) :: (D5, LCg.lst ((List.range j).map fun (l : Nat) => Value.bool (hasOpen ups (l : Int)))) :: (D13, LCg.lst ((List.range (vals.length + 2)).map fun (l : Nat) => Value.bool (hasOpen ups (l : Int)))) :: n6 := fun p hp => .tail _ (.tail _ (.tail _ (.tail _ hp)))
          k_steps
          refine go (kmk_slice_ints F7 N7 (isList N7 (upw _ mp)) (by kmk_part) (by kmk_part) iv7 (kmk_upto iv7 (by decide)) rfl (fun D8 ws8 h8 F8 N8 lt8 iv8 _ _ => ?_) (by with_unfolding_all rfl) (by intro _; with_unfolding_all rfl) (kmk_sz iv7 (by rw [sizeLine_eq, List.length_map]; omega)))
          clear F7 N7
          k_steps
          rename_i l9 hh9 F9 N9 lt9
          rcases ups with _ | ⟨x, r⟩
          · refine go (ne_nil (b := false) N9 (.tail _ (.head _)) (.head _) iv8 rfl (units64 (by omega)) ?_)
            k_steps
            refine go (cturn _ F9 N9 (fun p hp => .tail _ (.tail _ hp)) off7 (fun _ h => nomatch h) ⟨rfl, ?_⟩)
            rw [List.range_succ, List.map_append]; rfl
          · refine go (ne_nil (b := true) N9 (.tail _ (.head _)) (.head _) iv8 rfl (units64 (by omega)) ?_)
            cases iv7 with
            | cons i0 t0 iv7 =>
              have mp9 := List.Mem.tail (l9, listOf #[] 0) (List.Mem.tail (D8, listOf (List.toArray ws8) 0) (upw _ mp))
              k_steps
              refine go (cturn _ F9 N9 (fun p hp => .tail _ (.tail _ hp)) off7 (fun _ h => nomatch h) ⟨rfl, ?_⟩)
              rw [List.range_succ, List.map_append, Int.zero_add]; rfl
        · rintro h15 ys n15 ⟨rfl, rfl⟩ D15 h15' tk15 F15 N15 off15
          clear F14 N14 hr14
          k_steps
          refine go (ne_LR N15 (.list (n := ((List.range (vals.length + 2)).map fun (l : Nat) => Value.bool (hasOpen ups (l : Int))).length) (.tail _ (.head _)) (LRs.map fun _ _ => .bool)) (.list (n := ((List.range (vals.length + 2)).map fun (l : Nat) => Value.bool (hasOpen ups (l : Int))).length) (.head _) (LRs.map fun _ _ => .bool)) (shaped_bools (f := fun (l : Nat) => hasOpen ups (l : Int))) (units64 (by omega)) ?_)
          have N16 : News g' L' h15' n6 := sub N15 fun p hp => .tail _ (.tail _ hp)
          clear N15
          k_steps
          refine go (comp_A (by assumption) (by rfl) (by with_unfolding_all rfl) (by with_unfolding_all rfl) (by decide) (by rfl) (by decide) (by rfl) (by rfl) (by rfl) ?_)
          k_steps
          obtain ⟨olf, TL⟩ := H.fi.lt
          obtain ⟨okn, TK⟩ := H.fi.kt
          refine go (comp_keys (fun j ys n => (∀ p ∈ n6, p ∈ n) ∧ LRs g' L' n ys ((lx.take j).map (entryD ns))) rfl F15 N16 TL (by rw [lfTab, List.length_map]; omega) ⟨fun _ h => h, .nil⟩ ?_ ?_)
          · clear F15 N16
            rintro s8 j v ys n8 I5 oI5 C5 oC5 D5 mm5 h5 tk5 E5 hj ⟨e, he, hv5⟩ ⟨sb5, hys⟩ hs5 hC5 hx5 F5 N5 off5 ne5
            obtain ⟨e, he5, rfl⟩ : ∃ e', lx[j]? = some e' ∧ (e'.key, e'.ka, Value.ref e'.la) = e := by
              rw [lfTab, List.getElem?_map] at he
              exact Option.map_eq_some_iff.mp he
            have hem := List.mem_of_getElem? he5
            replace hv5 : v = .ref e.ka := hv5
            subst hv5
            have sb6 : ∀ p ∈ n6, p ∈ (I5, oI5) :: (C5, oC5) :: (D5, LCg.lst ys) :: n8 := fun p hp => .tail _ (.tail _ (.tail _ (sb5 p hp)))
            have mm4 := sb6 _ m4
            have mm3 := sb6 _ m3
            have T5 : TabAt prog w ((I5, oI5) :: (C5, oC5) :: (D5, LCg.lst ys) :: n8) lf olf (lfTab lx) := TL.mono (sb6 _ TL.mem) fun x hx => (TL.keys x hx).mono fun o ho => sb6 _ ho
            have mk5 : KeyIn prog w ((I5, oI5) :: (C5, oC5) :: (D5, LCg.lst ys) :: n8) e.key e.ka := T5.keys _ (List.mem_map_of_mem hem)
            have hat : atKey (lfTab lx) e.key = some (e.ka, .ref e.la) := atKey_of_mem TL.tab.nodup (mem_lfTab.mpr ⟨e, hem, rfl, rfl⟩)
            refine hide fun gP gQ => ?_
            obtain ⟨cs5, hcs1, hcs2⟩ := H.cint hem
            obtain ⟨nla, hla⟩ := H.fi.las e hem
            obtain ⟨ok5, hok5, tup5⟩ := id mk5
            refine gQ ?_
            clear gQ gP
            have hft : (lx.take (j + 1)).map (entryD ns) = (lx.take j).map (entryD ns) ++ [entryD ns e] := by
              rw [List.take_add_one, he5, List.map_append]; rfl
            have off6 : ∀ p ∈ n8, p.1 ≠ I5 ∧ p.1 ≠ C5 ∧ p.1 ≠ D5 := off5
            k_steps
            rename_i l5 hh5 F6 N6 lt6
            refine go (eq_nil N6 (.tail _ (sb6 _ hla)) (.head _) hcs1 hcs2 (units64 (by omega)) ?_)
            have N7 : News g' L' hh5 ((I5, oI5) :: (C5, oC5) :: (D5, LCg.lst ys) :: n8) := sub N6 fun p hp => .tail _ hp
            clear N6
            cases hc : e.c with
            | none =>
              obtain ⟨k, k1, k2, _⟩ := H.ex e hem
              injection k2 with e1 e2; injection e2 with e2 _
              obtain ⟨y, y1, y2, _⟩ := H.fi.r3 k k1 (by rw [e2, e1, (H.opn e hem).mp hc])
              have hr := H.fi.rng y y1
              rw [y2, e1] at hr
              obtain ⟨ti, hti⟩ := ints_at H.iv (show e.p.toNat < vals.length by omega)
              have mpl := sb6 _ hpln
              simp only [Option.isNone_none]
              k_steps
              rename_i D20 h20 F20 N20 lt20
              refine go (cturn_new F20 N20 off6 ⟨lt20.1, lt20.2.1, lt20.2.2.1⟩ (fun p hp => by rw [List.mem_singleton.mp hp]; exact sb5 _ TL.mem) ⟨fun p hp => .tail _ (sb5 p hp), ?_⟩)
              rw [hft]
              refine (hys.mono fun p hp => .tail _ hp).snoc ?_
              rw [entryD, worth, hc]
              exact .tuple (.head _) rfl rfl (.cons .int (.cons .bool .nil))
            | some vv =>
              refine hide fun gP gQ => ?_
              obtain ⟨k, k1, k2, k3⟩ := H.ex e hem
              obtain ⟨_, ci, ct, rfl⟩ := k3 vv hc
              refine gQ ?_
              clear gQ gP
              rw [hc] at hla
              have mla := sb6 _ hla
              simp only [Option.isNone_some]
              k_steps
              rename_i D20 h20 F20 N20 lt20
              refine go (cturn_new F20 N20 off6 ⟨lt20.1, lt20.2.1, lt20.2.2.1⟩ (fun p hp => by rw [List.mem_singleton.mp hp]; exact sb5 _ TL.mem) ⟨fun p hp => .tail _ (sb5 p hp), ?_⟩)
              rw [hft]
              refine (hys.mono fun p hp => .tail _ hp).snoc ?_
              rw [entryD, worth, hc]
              exact .tuple (.head _) rfl rfl (.cons .int (.cons .bool .nil))
          · rintro h21 ysm n21 ⟨sb21, hysm⟩ hm21 D21 h22 tk22 F22 N22 off22
            clear F15 N16
            rw [show (lfTab lx).length = lx.length from List.length_map .., List.take_length] at hysm
            have mm4 : (L' + 1 + 1 + 1 + 1, o4) ∈ (D21, LCg.lst ysm) :: n21 := .tail _ (sb21 _ m4)
            have mm3 : (L' + 1 + 1 + 1, o3) ∈ (D21, LCg.lst ysm) :: n21 := .tail _ (sb21 _ m3)
            have mm2 : (L' + 1 + 1, o2) ∈ (D21, LCg.lst ysm) :: n21 := .tail _ (sb21 _ m2)
            have TL2 : TabAt prog w ((D21, LCg.lst ysm) :: n21) lf olf (lfTab lx) := TL.mono (.tail _ (sb21 _ TL.mem)) fun x hx => (TL.keys x hx).mono fun o ho => .tail _ (sb21 _ ho)
            k_steps
            refine go (comp_E (by assumption) (by with_unfolding_all rfl) (by decide) (by rfl) (by decide) (by rfl) ?_)
            k_steps
            refine go (comp_keys (fun j ys n => (∀ p ∈ (D21, LCg.lst ysm) :: n21, p ∈ n) ∧ LRs g' L' n ys ((lx.take j).map (entryD ns))) rfl F22 N22 TL2 (by rw [lfTab, List.length_map]; omega) ⟨fun _ h => h, .nil⟩ ?_ ?_)
            · clear F22 N22
              rintro s8 j v ys n8 I5 oI5 C5 oC5 D5 mm5 h5 tk5 E5 hj ⟨e, he, hv5⟩ ⟨sb5, hys⟩ hs5 hC5 hx5 F5 N5 off5 ne5
              obtain ⟨e, he5, rfl⟩ : ∃ e', lx[j]? = some e' ∧ (e'.key, e'.ka, Value.ref e'.la) = e := by
                rw [lfTab, List.getElem?_map] at he
                exact Option.map_eq_some_iff.mp he
              have hem := List.mem_of_getElem? he5
              replace hv5 : v = .ref e.ka := hv5
              subst hv5
              have sb6 : ∀ p ∈ n6, p ∈ (I5, oI5) :: (C5, oC5) :: (D5, LCg.lst ys) :: n8 := fun p hp => .tail _ (.tail _ (.tail _ (sb5 p (.tail _ (sb21 p hp)))))
              have H6 := H.mono sb6
              obtain ⟨k, k1, k2, k3⟩ := H6.ex e hem
              have mm42 := sb6 _ m2
              have T5 : TabAt prog w ((I5, oI5) :: (C5, oC5) :: (D5, LCg.lst ys) :: n8) kn okn (knTab kx) := TK.mono (sb6 _ TK.mem) fun x hx => (TK.keys x hx).mono fun o ho => sb6 _ ho
              have mk5 : KeyIn prog w ((I5, oI5) :: (C5, oC5) :: (D5, LCg.lst ys) :: n8) e.key e.ka := (TL.keys _ (List.mem_map_of_mem hem)).mono fun o ho => sb6 _ ho
              have hat : atKey (knTab kx) e.key = some (k.ka, .ref k.u) := atKey_of_mem TK.tab.nodup (mem_knTab.mpr ⟨k, k1, k2, rfl⟩)
              have hft : (lx.take (j + 1)).map (entryD ns) = (lx.take j).map (entryD ns) ++ [entryD ns e] := by
                rw [List.take_add_one, he5, List.map_append]; rfl
              have off6 : ∀ p ∈ n8, p.1 ≠ I5 ∧ p.1 ≠ C5 ∧ p.1 ≠ D5 := off5
              have hin : InstIn ((I5, oI5) :: (C5, oC5) :: (D5, LCg.lst ys) :: n8) k.u k.d := H6.fi.ins k k1
              cases hc : e.c with
              | none =>
                injection k2 with e1 e2; injection e2 with e2 _
                refine hide fun gP gQ => ?_
                obtain ⟨y, y1, y2, y3, y4⟩ := H.fi.r3 k k1 (by rw [e2, e1, (H.opn e hem).mp hc])
                have hr := H.fi.rng y y1
                obtain ⟨ti, hti⟩ := ints_at H.iv (show y.ix.toNat < vals.length by omega)
                refine gQ ?_
                clear gQ gP
                have hup := H6.fi.ops y y1
                rw [y3, y4] at hup
                obtain ⟨hx1, τx, nx, hx2⟩ := id hup
                k_steps
                have hgr := H6.fi.gr
                refine go (getOpen_spec B' F5 X' N5 T' rfl (by omega) (by omega) hup hgr H6.stk hti hr.1 (by omega) fun h23 tk23 F23 N23 => ?_)
                clear F5 N5
                k_steps
                subst_vars
                rename_i D20 h20 F20 N20 lt20
                refine go (cturn_new F20 N20 off6 ⟨lt20.1, lt20.2.1, lt20.2.2.1⟩ (fun p hp => by rw [List.mem_singleton.mp hp]; exact sb5 _ TL2.mem) ⟨fun p hp => .tail _ (sb5 p hp), ?_⟩)
                rw [hft]
                refine (hys.mono fun p hp => .tail _ hp).snoc ?_
                rw [entryD, worth, hc]
                rw [← e1, ← y2]
                exact .tuple (.head _) rfl rfl (.cons .int (.cons .bool .nil))
              | some vv =>
                refine hide fun gP gQ => ?_
                obtain ⟨hup, ci, ct, rfl⟩ := k3 vv hc
                obtain ⟨hx1, τx, nx, hx2⟩ := id hup
                refine gQ ?_
                clear gQ gP
                k_steps
                refine go (getShut_spec B' F5 X' N5 T' rfl (by omega) (by omega) hup rfl fun h23 tk23 F23 N23 => ?_)
                clear F5 N5
                k_steps
                subst_vars
                rename_i D20 h20 F20 N20 lt20
                refine go (cturn_new F20 N20 off6 ⟨lt20.1, lt20.2.1, lt20.2.2.1⟩ (fun p hp => by rw [List.mem_singleton.mp hp]; exact sb5 _ TL2.mem) ⟨fun p hp => .tail _ (sb5 p hp), ?_⟩)
                rw [hft]
                refine (hys.mono fun p hp => .tail _ hp).snoc ?_
                rw [entryD, worth, hc]
                exact .tuple (.head _) rfl rfl (.cons .int (.cons .bool .nil))
            · rintro h24 ys n24 ⟨sb24, hys⟩ hm24 D24 h25 tk25 F25 N25 off25
              clear F22 N22
              rw [show (lfTab lx).length = lx.length from List.length_map .., List.take_length] at hys
              k_steps
              refine go (eq_LR N25 (.list (n := ys.length) (.head _) (hys.mono fun p hp => .tail _ hp)) (.list (n := ysm.length) (.tail _ (sb24 _ (.head _))) (hysm.mono fun p hp => .tail _ (sb24 _ (.tail _ hp)))) (shaped_pairs (f := worth ns) (g := fun e => e.c.isNone)) (units64 (by omega)) ?_)
              k_steps
              exact go (back F25 N25 fun F9 N9 => post _ _ F9 (sub N9 fun p hp => .tail _ (sb24 p (.tail _ (sb21 p (sb p hp))))))
end
end
section
section
variable {w : World} {loose : List Str} {mean : ExcName → Option Value} {mg mb : Str → Option Value} {dp un : Nat} {gd : Option (List Code)} {cn : Str} {cs : Scope} {a : Addr} {ccd : Value} {cl : List (Str × Addr)} {outer : List Env} {A₀ : Around} {base h₀ : Heap} {L : Addr} {m : Str → Option Value} {s : Shared} {Q E : Value → Shared → Prop} {news : Led}
/-- take_closed, said of a ledger by its members -/
theorem takeS_spec {g dg st ou : Addr} {ups : List Up} {vals : List Value} {level : Int} {t : Tok}
    (B : Below A₀ base outer h₀) (F : Fr h₀ L s.heap m) (X : (Mine.Hd.top.heap_1 w.params).In h₀) (N : News h₀ L s.heap news) (T : Top VW loose mean mg mb h₀) (hk : cs.kind = .function) (hd : dp ≤ 450) (hu : un ≤ 500)
    (hg : GrAt w.params news g dg st ou) (hst : LiAt news st vals) (hou : LiAt news ou (refs ups)) (hops : Ops w.params news g ups) (nd : (ups.map (·.d)).Nodup) (ne : st ≠ ou) (hlen : ups.length ≤ 100) (hvl : vals.length ≤ 1000) (hr : ∀ x ∈ ups, 0 ≤ x.ix ∧ x.ix < vals.length)
    (post : ∀ l N' k h' tk', Fr h₀ L h' m → News h₀ L h' N' → Step (ou :: (ups.takeWhile fun x => decide (level ≤ x.ix)).map (·.d)) news N' → (l, listOf (refs (ups.takeWhile fun x => decide (level ≤ x.ix))).toArray k) ∈ N' → (∀ q ∈ news, q.1 < l) →
      LiAt N' ou (refs (ups.dropWhile fun x => decide (level ≤ x.ix))) → (∀ x ∈ ups.takeWhile fun x => decide (level ≤ x.ix), ∃ v, vals[x.ix.toNat]? = some v ∧ UpAt w.params N' x.u x.d .none (-1) v) → Q (.ref l) { s with heap := h', toks := tk' }) :
    wpAny (model prog w) (ktrTop dp un gd cn cs L a ccd cl outer) (call (.ref 139) [.ref g, .int level t]) Q E s := by
  obtain ⟨n, hou⟩ := hou
  obtain ⟨hg1, τg, ng, hg2⟩ := hg
  obtain ⟨nst, hst⟩ := hst
  refine take_spec (rest := off ou news) (dg := dg) (st := st) (vals := vals) B F X (front N hou) T hk hd hu off_ne ⟨mem_off_of hg1 (ne_mk1 N hg1 hou (by rw [mk_inst, mk_list]; decide)), τg, ng, mem_off_of hg2 (ne_mk1 N hg2 hou (by rw [mk_gr, mk_list]; decide))⟩ ⟨nst, mem_off_of hst ne⟩
    (fun x hx => let ⟨h1, τ, c, h2⟩ := hops x hx; ⟨mem_off_of h1 (ne_mk1 N h1 hou (by rw [mk_inst, mk_list]; decide)), τ, c, mem_off_of h2 (ne_mk1 N h2 hou (by rw [mk_up, mk_list]; decide))⟩) nd hlen hvl hr fun l rest' k j h' tk' F' N' l1 l2 c => ?_
  have hl : ∀ q ∈ news, q.1 < l := fun q hq => by
    by_cases e : q.1 = ou
    · rw [e]; exact l2
    · exact l1 _ (mem_off_of hq e)
  refine post l _ j h' tk' F' N' ⟨fun q hq hn => ?_, fun q hq => ?_⟩ (.tail _ (.head _)) hl ⟨k, .head _⟩ fun x hx => ?_
  · rw [List.mem_cons, not_or] at hn
    exact .tail _ (.tail _ (c.keep q (mem_off_of hq hn.1) hn.2))
  · by_cases e : q.1 = ou
    · exact ⟨_, by rw [e]; exact .head _⟩
    · by_cases hd : q.1 ∈ (ups.takeWhile fun x => decide (level ≤ x.ix)).map (·.d)
      · obtain ⟨x, hx, e2⟩ := List.mem_map.mp hd
        obtain ⟨v, _, _, τ, c', h2⟩ := c.shut x hx
        exact ⟨_, by rw [← e2]; exact .tail _ (.tail _ h2)⟩
      · exact ⟨q.2, .tail _ (.tail _ (c.keep q (mem_off_of hq e) hd))⟩
  · obtain ⟨v, h1, h2⟩ := c.shut x hx
    exact ⟨v, h1, h2.mono (fun _ h => .tail _ (.tail _ h)) fun _ h => .tail _ (.tail _ h)⟩
end

/-- what closing the places of S makes of an entry -/
def clo (vals : List Value) (S : List Int) (la : Int → Addr) (e : En) : En := if e.c.isNone = true ∧ e.p ∈ S then { e with la := la e.p, c := vals[e.p.toNat]? } else e
theorem clo_key {vals : List Value} {S : List Int} {la : Int → Addr} {e : En} : (clo vals S la e).key = e.key ∧ (clo vals S la e).ka = e.ka ∧ (clo vals S la e).p = e.p ∧ (clo vals S la e).t = e.t := by
  unfold clo; split <;> exact ⟨rfl, rfl, rfl, rfl⟩
theorem clo_nil {vals : List Value} {la : Int → Addr} {lx : List En} : lx.map (clo vals [] la) = lx := by
  conv => rhs; rw [← List.map_id lx]
  exact List.map_congr_left fun e _ => by unfold clo; rw [if_neg (fun h => nomatch h.2)]; rfl
/-- the ticks after the places of S are closed -/
def tick (S : List Int) (tms : Int → Int) : Int → Int := fun y => if y ∈ S then tms y + 1 else tms y
theorem tick_snoc {S : List Int} {p : Int} {tms : Int → Int} (h : p ∉ S) : (fun y => if y = p then tick S tms p + 1 else tick S tms y) = tick (S ++ [p]) tms := by
  funext y
  unfold tick
  by_cases e : y = p
  · subst e; simp [h]
  · simp [e]
theorem lfTab_clo {vals : List Value} {S : List Int} {la : Int → Addr} {lx : List En} {e : En} {l : Addr} (hn : ((lfTab lx).map (·.1)).Nodup) (he : e ∈ lx) (hc : e.c.isNone = true) (hp : e.p ∉ S) (hu : ∀ e' ∈ lx, e'.c.isNone = true → e'.p = e.p → e'.key = e.key) (ka : Addr) :
    storedH (lfTab (lx.map (clo vals S la))) e.key ka (.ref l) = lfTab (lx.map (clo vals (S ++ [e.p]) (fun y => if y = e.p then l else la y))) := by
  have key : ∀ x ∈ lx, (x.key = e.key ↔ x.c.isNone = true ∧ x.p = e.p) := fun x hx => by
    constructor
    · intro h
      have : x = e := by
        have h1 : (x.key, x.ka, Value.ref x.la) ∈ lfTab lx := List.mem_map_of_mem hx
        have h2 : (e.key, e.ka, Value.ref e.la) ∈ lfTab lx := List.mem_map_of_mem he
        obtain ⟨i, hi⟩ := List.mem_iff_getElem?.mp hx
        obtain ⟨j, hj⟩ := List.mem_iff_getElem?.mp he
        have hi' : (lfTab lx)[i]? = some (e.key, x.ka, Value.ref x.la) := by rw [lfTab, List.getElem?_map, hi, ← h]; rfl
        have hj' : (lfTab lx)[j]? = some (e.key, e.ka, Value.ref e.la) := by rw [lfTab, List.getElem?_map, hj]; rfl
        have := idxH_unique hn hi' hj'
        subst this
        rw [hi] at hj; exact Option.some.inj hj
      rw [this]; exact ⟨hc, rfl⟩
    · rintro ⟨h1, h2⟩; exact hu x hx h1 h2
  have hat : ∃ p, atKey (lfTab (lx.map (clo vals S la))) e.key = some p := by
    cases h : atKey (lfTab (lx.map (clo vals S la))) e.key with
    | some p => exact ⟨p, rfl⟩
    | none =>
      exfalso
      have hm : (e.key, e.ka, Value.ref (clo vals S la e).la) ∈ lfTab (lx.map (clo vals S la)) := by
        refine mem_lfTab.mpr ⟨clo vals S la e, List.mem_map_of_mem he, clo_key.1, ?_⟩
        rw [clo_key.2.1]
      have hn' : ((lfTab (lx.map (clo vals S la))).map (·.1)).Nodup := by
        have : (lfTab (lx.map (clo vals S la))).map (·.1) = (lfTab lx).map (·.1) := by
          rw [lfTab, lfTab, List.map_map, List.map_map, List.map_map]
          exact List.map_congr_left fun x _ => clo_key.1
        rw [this]; exact hn
      rw [atKey_of_mem hn' hm] at h
      cases h
  obtain ⟨p, hp'⟩ := hat
  rw [storedH_old hp', lfTab, lfTab, List.map_map, List.map_map, List.map_map]
  refine List.map_congr_left fun x hx => ?_
  have h0 := clo_key (vals := vals) (S := S) (la := la) (e := x)
  have h1 := clo_key (vals := vals) (S := S ++ [e.p]) (la := fun y => if y = e.p then l else la y) (e := x)
  show putAt e.key (.ref l) ((clo vals S la x).key, (clo vals S la x).ka, Value.ref (clo vals S la x).la) = ((clo vals (S ++ [e.p]) _ x).key, (clo vals (S ++ [e.p]) _ x).ka, Value.ref (clo vals (S ++ [e.p]) _ x).la)
  rw [h0.1, h1.1, h0.2.1, h1.2.1]
  by_cases hk : x.key = e.key
  · obtain ⟨k1, k2⟩ := (key x hx).mp hk
    rw [putAt, if_pos hk]
    have : (clo vals (S ++ [e.p]) (fun y => if y = e.p then l else la y) x).la = l := by
      unfold clo; rw [if_pos ⟨k1, by rw [k2]; simp⟩]; simp [k2]
    rw [this]
  · rw [putAt, if_neg hk]
    have : (clo vals (S ++ [e.p]) (fun y => if y = e.p then l else la y) x).la = (clo vals S la x).la := by
      unfold clo
      by_cases h : x.c.isNone = true ∧ x.p ∈ S
      · have hne : x.p ≠ e.p := fun e' => hp (e' ▸ h.2)
        rw [if_pos h, if_pos ⟨h.1, List.mem_append_left _ h.2⟩]
        simp [hne]
      · rw [if_neg h, if_neg]
        rintro ⟨a, b⟩
        rcases List.mem_append.mp b with b | b
        · exact h ⟨a, b⟩
        · exact hk ((key x hx).mpr ⟨a, List.mem_singleton.mp b⟩)
    rw [this]

theorem tw_mem {ups : List Up} {level : Int} (hs : ups.Pairwise (fun x y => y.ix < x.ix)) : ∀ x, x ∈ (ups.takeWhile fun x => decide (level ≤ x.ix)) ↔ x ∈ ups ∧ level ≤ x.ix := by
  induction ups with
  | nil => intro x; simp
  | cons y r ih =>
    rw [List.pairwise_cons] at hs
    intro x
    by_cases h : level ≤ y.ix
    · rw [List.takeWhile_cons, if_pos (by simpa using h), List.mem_cons, List.mem_cons, ih hs.2 x]
      constructor
      · rintro (rfl | ⟨a, b⟩)
        · exact ⟨.inl rfl, h⟩
        · exact ⟨.inr a, b⟩
      · rintro ⟨rfl | a, b⟩
        · exact .inl rfl
        · exact .inr ⟨a, b⟩
    · rw [List.takeWhile_cons, if_neg (by simpa using h)]
      constructor
      · intro h'; cases h'
      · rintro ⟨a, b⟩
        rcases List.mem_cons.mp a with rfl | a
        · exact absurd b h
        · have := hs.1 x a; omega
theorem dw_mem {ups : List Up} {level : Int} (hs : ups.Pairwise (fun x y => y.ix < x.ix)) : ∀ x, x ∈ (ups.dropWhile fun x => decide (level ≤ x.ix)) ↔ x ∈ ups ∧ x.ix < level := by
  induction ups with
  | nil => intro x; simp
  | cons y r ih =>
    rw [List.pairwise_cons] at hs
    intro x
    by_cases h : level ≤ y.ix
    · rw [List.dropWhile_cons, if_pos (by simpa using h), List.mem_cons, ih hs.2 x]
      constructor
      · rintro ⟨a, b⟩; exact ⟨.inr a, b⟩
      · rintro ⟨rfl | a, b⟩
        · omega
        · exact ⟨a, b⟩
    · rw [List.dropWhile_cons, if_neg (by simpa using h)]
      constructor
      · intro hx
        refine ⟨hx, ?_⟩
        rcases List.mem_cons.mp hx with rfl | a
        · omega
        · have := hs.1 x a; omega
      · exact fun h => h.1
abbrev selE (level : Int) (e : En) : Bool := e.c.isNone && decide (level ≤ e.p)
section
variable {w : World} {tms : Int → Int} {g dg st ou kn lf pl : Addr} {vals : List Value} {ns : List Int} {N : Led} {ups : List Up} {kx : List Kn} {lx es : List En} {level : Int}
theorem HI.gone_nodup (H : HI w tms g dg st ou kn lf pl vals ns N ups kx lx) : ((lx.filter (selE level)).map (·.p)).Nodup := by
  have h1 : (ups.map (·.ix)).Nodup := by
    rw [List.nodup_iff_pairwise_ne, List.pairwise_map]
    exact H.fi.sorted.imp fun h e => by omega
  have h2 : (opens lx).Nodup := H.opens_perm.nodup_iff.mpr h1
  have : lx.filter (selE level) = (lx.filter (fun e => e.c.isNone)).filter (fun e => decide (level ≤ e.p)) := by rw [List.filter_filter]; congr 1; funext e; simp [selE, Bool.and_comm]
  rw [this]
  exact (List.filter_sublist.map _).nodup h2
theorem HI.gone_len (H : HI w tms g dg st ou kn lf pl vals ns N ups kx lx) : (lx.filter (selE level)).length < 64 := by
  have h := H.opens_len
  have : lx.filter (selE level) = (lx.filter (fun e => e.c.isNone)).filter (fun e => decide (level ≤ e.p)) := by rw [List.filter_filter]; congr 1; funext e; simp [selE, Bool.and_comm]
  rw [this]
  have h2 := List.length_filter_le (fun e : En => decide (level ≤ e.p)) (lx.filter (fun e => e.c.isNone))
  rw [opens, List.length_map] at h
  omega
theorem gone_mem (pm : es.Perm (lx.filter (selE level))) {e : En} (he : e ∈ es) : e ∈ lx ∧ e.c.isNone = true ∧ level ≤ e.p := by
  have h := List.mem_filter.mp (pm.mem_iff.mp he)
  rw [selE, Bool.and_eq_true] at h
  exact ⟨h.1, h.2.1, by simpa using h.2.2⟩
theorem HI.open_at (H : HI w tms g dg st ou kn lf pl vals ns N ups kx lx) {e : En} (he : e ∈ lx) (hc : e.c.isNone = true) : e.t = tms e.p ∧ 0 ≤ e.p ∧ e.p < vals.length := by
  have h1 := (H.opn e he).mp (by simpa using hc)
  obtain ⟨k, k1, k2, _⟩ := H.ex e he
  injection k2 with e1 e2; injection e2 with e2 _
  obtain ⟨y, y1, y2, _⟩ := H.fi.r3 k k1 (by rw [e2, e1, h1])
  have := H.fi.rng y y1
  rw [y2, e1] at this
  exact ⟨h1, this⟩
theorem HI.gone_eq (H : HI w tms g dg st ou kn lf pl vals ns N ups kx lx) (pm : es.Perm (lx.filter (selE level))) (pw : es.Pairwise (fun x y => y.p < x.p)) : es.map (·.p) = (ups.takeWhile fun x => decide (level ≤ x.ix)).map (·.ix) := by
  have sl : (ups.takeWhile fun x => decide (level ≤ x.ix)).Pairwise (fun x y => y.ix < x.ix) := H.fi.sorted.sublist (List.takeWhile_sublist _)
  refine desc_same (perm_of ?_ ?_ fun x => ?_) ?_ ?_
  · exact (pm.map _).nodup_iff.mpr H.gone_nodup
  · rw [List.nodup_iff_pairwise_ne, List.pairwise_map]; exact sl.imp fun h e => by omega
  · constructor
    · intro hx
      obtain ⟨e, he, rfl⟩ := List.mem_map.mp hx
      obtain ⟨h1, h2, h3⟩ := gone_mem pm he
      have : e.p ∈ opens lx := List.mem_map.mpr ⟨e, List.mem_filter.mpr ⟨h1, h2⟩, rfl⟩
      obtain ⟨y, y1, y2⟩ := List.mem_map.mp (H.opens_perm.mem_iff.mp this)
      exact List.mem_map.mpr ⟨y, (tw_mem H.fi.sorted y).mpr ⟨y1, by omega⟩, y2⟩
    · intro hx
      obtain ⟨y, hy, rfl⟩ := List.mem_map.mp hx
      obtain ⟨y1, y2⟩ := (tw_mem H.fi.sorted y).mp hy
      obtain ⟨e, he, e2⟩ := List.mem_map.mp (H.opens_perm.mem_iff.mpr (List.mem_map.mpr ⟨y, y1, rfl⟩))
      obtain ⟨h1, h2⟩ := List.mem_filter.mp he
      exact List.mem_map.mpr ⟨e, pm.mem_iff.mpr (List.mem_filter.mpr ⟨h1, by rw [selE, h2]; simp; omega⟩), e2⟩
  · rw [List.pairwise_map]; exact pw.imp fun h => by omega
  · rw [List.pairwise_map]; exact sl.imp fun h => by omega
end
section
variable {prog : Program} {w : World} {A : Around} {E : Value → Shared → Prop} {s : Shared} {h₀ : Heap} {L D b : Addr} {m : Str → Option Value} {news : Led} {n n2 : Nat} {vs vs2 : List Value} {Q : Value → Shared → Prop}
theorem extend_S (F : Fr h₀ L s.heap m) (N : News h₀ L s.heap news) (hD : (D, listOf vs.toArray n) ∈ news) (hb : (b, listOf vs2.toArray n2) ∈ news) (hne : D ≠ b) (hz : vs.length ≤ 1000) (hz2 : vs2.length ≤ 1000)
    (h : ∀ h' c, Fr h₀ L h' m → News h₀ L h' ((D, listOf (vs ++ vs2).toArray c) :: off D news) → Q .none { s with heap := h' }) : wpAny (model prog w) A (call (.builtin "list.extend") [.ref D, .ref b]) Q E s := by
  by_cases h2 : vs2 = []
  · subst h2
    refine kxn_extend F (front N hD) (.tail _ (mem_off_of hb (Ne.symm hne))) rfl (.head off_ne) ?_ ?_ ?_ fun h' F' N' => h h' n F' (by simpa using N')
    · rw [show Builtin.List.listTooLong (vs.toArray.size + ([] : List Value).toArray.size) = false from by unfold Builtin.List.listTooLong; rw [sizeLine_eq]; simp; omega]; simp
    · rw [sizeLine_eq]; simp; omega
    · rw [sizeLine_eq]; simp; omega
  · refine kl_extend F (front N hD) (.tail _ (mem_off_of hb (Ne.symm hne))) rfl ?_ (.head off_ne) ?_ ?_ ?_ fun h' F' N' => h h' _ F' N'
    · simpa using h2
    · rw [show Builtin.List.listTooLong (vs.toArray.size + vs2.toArray.size) = false from by unfold Builtin.List.listTooLong; rw [sizeLine_eq]; simp; omega]; simp
    · rw [sizeLine_eq]; simp; omega
    · rw [sizeLine_eq]; simp; omega
end
end
section
open PySem.SeqAt
/-- a list or a dictionary: what may change -/
def Mut (N : Led) (b : Addr) : Prop := ∃ ob, (b, ob) ∈ N ∧ ((mk ob).1 = 1 ∨ (mk ob).1 = 2)
theorem mk_tup {o : Obj} (h : o.cls = .type "tuple") : (mk o).1 = 0 := by
  unfold mk
  rw [h]
  rfl
theorem Mut.noTup {N : Led} {fp : List Addr} (h : ∀ b ∈ fp, Mut N b) : NoTup N fp := fun b hb => by
  obtain ⟨ob, h1, h2⟩ := h b hb
  exact ⟨ob, h1, fun e => by rw [mk_tup e] at h2; omega⟩
theorem Mut.list {N : Led} {b : Addr} {vs : Array Value} {n : Nat} (h : (b, listOf vs n) ∈ N) : Mut N b := ⟨_, h, .inl rfl⟩
theorem Mut.tab {prog : Program} {w : World} {N : Led} {b : Addr} {o : Obj} {xs : TL} (h : (b, o) ∈ N) (t : IsTab prog w o xs) : Mut N b := ⟨_, h, .inr t.mk1⟩
theorem Mut.times {prog : Program} {w : World} {N : Led} {b : Addr} {o : Obj} {n : Nat} {tms : Int → Int} (h : (b, o) ∈ N) (t : TimesObj prog w o n tms) : Mut N b := ⟨_, h, .inr t.mk1⟩
theorem Mut.up {P : Params} {N : Led} {d : Addr} {τ : UT} {th v : Value} {ix : Int} {n : Nat} (h : (d, dictOf (upEs P τ th ix v) n) ∈ N) : Mut N d := ⟨_, h, .inr rfl⟩
theorem Mut.ne_inst {h₀ h : Heap} {L a b C d : Addr} {N : Led} (x : Mut N b) (n : News h₀ L h N) (hm : (a, instObj C d) ∈ N) : a ≠ b := by
  obtain ⟨ob, h1, h2⟩ := x
  exact ne_mk1 n hm h1 (by rw [mk_inst]; show (3 : Nat) ≠ _; omega)
/-- what of a ground is not of the lives -/
structure HC (w : World) (g dg st ou kn pl : Addr) (vals : List Value) (N : Led) (ups : List Up) (kx : List Kn) : Prop where
  gr : GrAt w.params N g dg st ou
  li : LiAt N ou (refs ups)
  ops : Ops w.params N g ups
  stk : LiAt N st vals
  pln : LiAt N pl vals
  kt : ∃ o, TabAt prog w N kn o (knTab kx)
  ins : ∀ k ∈ kx, InstIn N k.u k.d
  sub : ∀ x ∈ ups, ∃ k ∈ kx, k.u = x.u ∧ k.d = x.d
theorem HI.hc {w : World} {tms : Int → Int} {g dg st ou kn lf pl : Addr} {vals : List Value} {ns : List Int} {N : Led} {ups : List Up} {kx : List Kn} {lx : List En} (H : HI w tms g dg st ou kn lf pl vals ns N ups kx lx) : HC w g dg st ou kn pl vals N ups kx :=
  ⟨H.fi.gr, H.fi.li, H.fi.ops, H.stk, H.pln, H.fi.kt, H.fi.ins, fun x hx => let ⟨k, h1, _, _, h2⟩ := H.fi.r1 x hx; ⟨k, h1, h2⟩⟩
section
variable {w : World} {g dg st ou kn pl : Addr} {vals : List Value} {N N' : Led} {ups : List Up} {kx : List Kn} {h₀ h : Heap} {L : Addr} {fp : List Addr}
theorem HC.mono (C : HC w g dg st ou kn pl vals N ups kx) (s : ∀ p ∈ N, p ∈ N') : HC w g dg st ou kn pl vals N' ups kx where
  gr := C.gr.mono (fun _ h => s _ h) fun _ h => s _ h
  li := C.li.mono fun _ h => s _ h
  ops := fun x hx => (C.ops x hx).mono (fun _ h => s _ h) fun _ h => s _ h
  stk := C.stk.mono fun _ h => s _ h
  pln := C.pln.mono fun _ h => s _ h
  kt := let ⟨o, T⟩ := C.kt; ⟨o, T.mono (s _ T.mem) fun x hx => (T.keys x hx).mono fun _ h => s _ h⟩
  ins := fun k hk => (C.ins k hk).mono (fun _ h => s _ h) fun _ h => s _ h
  sub := C.sub
theorem HC.keep (C : HC w g dg st ou kn pl vals N ups kx) (n : News h₀ L h N) (K : Keep fp N N') (hm : ∀ b ∈ fp, Mut N b) (hn : ∀ b ∈ fp, dg ≠ b ∧ kn ≠ b ∧ st ≠ b ∧ ou ≠ b ∧ pl ≠ b ∧ ∀ k ∈ kx, k.d ≠ b) : HC w g dg st ou kn pl vals N' ups kx := by
  have mv : ∀ {b : Addr} {ob : Obj}, (b, ob) ∈ N → (∀ c ∈ fp, b ≠ c) → (b, ob) ∈ N' := fun hb h => K _ hb fun hx => h _ hx rfl
  have mi : ∀ {b C d : Addr}, (b, instObj C d) ∈ N → (b, instObj C d) ∈ N' := fun hb => mv hb fun c hc => (hm c hc).ne_inst n hb
  have hin : ∀ k ∈ kx, InstIn N' k.u k.d := fun k hk => by
    obtain ⟨h1, P, τ, th, ix, v, c, h2⟩ := C.ins k hk
    exact ⟨mi h1, P, τ, th, ix, v, c, mv h2 fun b hb => (hn b hb).2.2.2.2.2 k hk⟩
  obtain ⟨okn, TK⟩ := C.kt
  refine ⟨?_, ?_, fun x hx => ?_, ?_, ?_, ⟨okn, TK.keep n K (Mut.noTup hm) fun hx => (hn _ hx).2.1 rfl⟩, hin, C.sub⟩
  · obtain ⟨h1, τ, c, h2⟩ := C.gr
    exact ⟨mi h1, τ, c, mv h2 fun b hb => (hn b hb).1⟩
  · obtain ⟨c, h1⟩ := C.li
    exact ⟨c, mv h1 fun b hb => (hn b hb).2.2.2.1⟩
  · obtain ⟨h1, τ, c, h2⟩ := C.ops x hx
    obtain ⟨k, k1, _, k3⟩ := C.sub x hx
    exact ⟨mi h1, τ, c, mv h2 fun b hb => k3 ▸ (hn b hb).2.2.2.2.2 k k1⟩
  · obtain ⟨c, h1⟩ := C.stk
    exact ⟨c, mv h1 fun b hb => (hn b hb).2.2.1⟩
  · obtain ⟨c, h1⟩ := C.pln
    exact ⟨c, mv h1 fun b hb => (hn b hb).2.2.2.2.1⟩
end

theorem HI.close {w : World} {tms : Int → Int} {g dg st ou kn lf pl : Addr} {vals : List Value} {ns : List Int} {N N' : Led} {ups : List Up} {kx : List Kn} {lx : List En} {h₀ h : Heap} {L : Addr} {fp : List Addr} {level : Int} {S : List Int} {la : Int → Addr}
    (H : HI w tms g dg st ou kn lf pl vals ns N ups kx lx) (n : News h₀ L h N) (dn : (kx.map (·.d)).Nodup) (hS : ∀ p, p ∈ S ↔ ∃ x ∈ ups, level ≤ x.ix ∧ x.ix = p) (K : Keep fp N N') (hm : ∀ b ∈ fp, Mut N b)
    (hn : ∀ b ∈ fp, dg ≠ b ∧ kn ≠ b ∧ st ≠ b ∧ pl ≠ b ∧ (∀ k ∈ kx, k.d = b → ∃ x ∈ ups, level ≤ x.ix ∧ x.d = k.d) ∧ ∀ e ∈ lx, e.la ≠ b)
    (hou : LiAt N' ou (refs (ups.dropWhile fun x => decide (level ≤ x.ix)))) (hdone : ∀ x ∈ ups, level ≤ x.ix → ∃ v, vals[x.ix.toNat]? = some v ∧ UpAt w.params N' x.u x.d .none (-1) v)
    (hlf : ∃ o, (lf, o) ∈ N' ∧ IsTab prog w o (lfTab (lx.map (clo vals S la)))) (hla : ∀ p ∈ S, ∃ v c, vals[p.toNat]? = some v ∧ (la p, listOf [v].toArray c) ∈ N' ∧ la p ≠ ou) :
    HI w (tick S tms) g dg st ou kn lf pl vals ns N' (ups.dropWhile fun x => decide (level ≤ x.ix)) kx (lx.map (clo vals S la)) := by
  have mv : ∀ {b : Addr} {ob : Obj}, (b, ob) ∈ N → (∀ c ∈ fp, b ≠ c) → (b, ob) ∈ N' := fun hb h => K _ hb fun hx => h _ hx rfl
  have mi : ∀ {b C d : Addr}, (b, instObj C d) ∈ N → (b, instObj C d) ∈ N' := fun hb => mv hb fun c hc => (hm c hc).ne_inst n hb
  obtain ⟨okn, TK⟩ := H.fi.kt
  obtain ⟨olf, TL⟩ := H.fi.lt
  have dwm := dw_mem (level := level) H.fi.sorted
  have nS : ∀ x ∈ ups, x.ix < level → x.ix ∉ S := fun x hx hl hp => by
    obtain ⟨y, hy, h1, h2⟩ := (hS _).mp hp
    omega
  -- a variable whose dictionary is not changed
  have dsame : ∀ k ∈ kx, (∀ x ∈ ups, level ≤ x.ix → x.d ≠ k.d) → ∀ c ∈ fp, k.d ≠ c := fun k hk hx c hc e => by
    obtain ⟨x, x1, x2, x3⟩ := (hn c hc).2.2.2.2.1 k hk e
    exact hx x x1 x2 x3
  have kuniq : ∀ k ∈ kx, ∀ k' ∈ kx, k.d = k'.d → k = k' := fun k hk k' hk' e => by
    obtain ⟨i, hi⟩ := List.mem_iff_getElem?.mp hk
    obtain ⟨j, hj⟩ := List.mem_iff_getElem?.mp hk'
    have h1 : (kx.map (·.d))[i]? = some k.d := by rw [List.getElem?_map, hi]; rfl
    have h2 : (kx.map (·.d))[j]? = some k.d := by rw [List.getElem?_map, hj, e]; rfl
    have := (List.getElem?_inj (List.getElem?_eq_some_iff.mp h1).1 dn).mp (h1.trans h2.symm)
    subst this
    rw [hi] at hj; exact Option.some.inj hj
  have opsK : ∀ x ∈ ups, x.ix < level → UpAt w.params N' x.u x.d (.ref g) x.ix .none := fun x hx hl => by
    obtain ⟨h1, τ, c, h2⟩ := H.fi.ops x hx
    obtain ⟨k, k1, kp, kt, ku, kd⟩ := H.fi.r1 x hx
    refine ⟨mi h1, τ, c, mv h2 ?_⟩
    rw [← kd]
    refine dsame k k1 fun y hy hyl e => ?_
    obtain ⟨k', k1', kp', kt', ku', kd'⟩ := H.fi.r1 y hy
    have := kuniq k k1 k' k1' (by rw [kd', e])
    subst this
    omega
  have insK : ∀ k ∈ kx, InstIn N' k.u k.d := fun k hk => by
    obtain ⟨h1, P, τ, th, ix, v, c, h2⟩ := H.fi.ins k hk
    by_cases hx : ∃ x ∈ ups, level ≤ x.ix ∧ x.d = k.d
    · obtain ⟨x, x1, x2, x3⟩ := hx
      obtain ⟨v', _, _, τ', c', h3⟩ := hdone x x1 x2
      exact ⟨mi h1, _, τ', _, _, _, c', x3 ▸ h3⟩
    · exact ⟨mi h1, P, τ, th, ix, v, c, mv h2 (dsame k hk fun x x1 x2 x3 => hx ⟨x, x1, x2, x3⟩)⟩
  have tk : ∀ k ∈ kx, k.t ≤ tms k.p := fun k hk => by
    obtain ⟨e, e1, e2⟩ := H.all k hk
    injection e2 with a1 a2; injection a2 with a2 _
    have := H.le e e1
    rw [a2, a1] at this; exact this
  obtain ⟨oo, ho1, ho2⟩ := hlf
  have cl1 : ∀ e, (clo vals S la e).key = e.key ∧ (clo vals S la e).ka = e.ka ∧ (clo vals S la e).p = e.p ∧ (clo vals S la e).t = e.t := fun e => clo_key
  refine ⟨⟨?_, hou, fun x hx => ?_, ⟨okn, TK.keep n K (Mut.noTup hm) fun hx => (hn _ hx).2.1 rfl⟩, ⟨oo, TL.lo, ho1, ho2, fun x hx => ?_⟩, insK, fun e he => ?_, H.fi.sorted.sublist (List.dropWhile_sublist _), fun x hx => H.fi.rng x ((dwm x).mp hx).1, H.fi.vl, H.fi.kl, by rw [List.length_map]; exact H.fi.ll, fun x hx => ?_, H.fi.r2, fun k hk e => ?_, H.fi.a1, H.fi.a2, H.fi.a3, fun e he => ?_⟩, ?_, ?_, H.iv, ?_, H.ne, fun e he => ?_, fun e he => ?_, fun k hk => ?_, fun e he => ?_⟩
  · obtain ⟨h1, τ, c, h2⟩ := H.fi.gr
    exact ⟨mi h1, τ, c, mv h2 fun b hb => (hn b hb).1⟩
  · exact opsK x ((dwm x).mp hx).1 ((dwm x).mp hx).2
  · obtain ⟨y, hy, rfl⟩ := List.mem_map.mp hx
    obtain ⟨z, hz, rfl⟩ := List.mem_map.mp hy
    show KeyIn prog w _ (clo vals S la z).key (clo vals S la z).ka
    rw [(cl1 z).1, (cl1 z).2.1]
    exact (TL.keys _ (List.mem_map_of_mem hz)).keep n K (Mut.noTup hm)
  · obtain ⟨z, hz, rfl⟩ := List.mem_map.mp he
    unfold clo
    split
    · rename_i hc
      obtain ⟨v, c, h1, h2, _⟩ := hla z.p hc.2
      exact ⟨c, by rw [h1]; exact h2⟩
    · obtain ⟨c, h1⟩ := H.fi.las z hz
      exact ⟨c, mv h1 fun b hb => (hn b hb).2.2.2.2.2 z hz⟩
  · obtain ⟨x1, x2⟩ := (dwm x).mp hx
    obtain ⟨k, k1, kp, kt, kr⟩ := H.fi.r1 x x1
    exact ⟨k, k1, kp, by rw [kt, tick, if_neg (nS x x1 x2)], kr⟩
  · by_cases hp : k.p ∈ S
    · exfalso
      rw [tick, if_pos hp] at e
      have := tk k hk
      omega
    · rw [tick, if_neg hp] at e
      obtain ⟨x, x1, x2, x3⟩ := H.fi.r3 k hk e
      refine ⟨x, (dwm x).mpr ⟨x1, ?_⟩, x2, x3⟩
      rcases Int.lt_or_le x.ix level with h | h
      · exact h
      · exact absurd ((hS k.p).mpr ⟨x, x1, h, x2⟩) hp
  · obtain ⟨z, hz, rfl⟩ := List.mem_map.mp he
    unfold clo
    split
    · rename_i hc
      obtain ⟨_, _, _, _, h⟩ := hla z.p hc.2
      exact h
    · exact H.fi.a4 z hz
  · obtain ⟨c, h1⟩ := H.stk
    exact ⟨c, mv h1 fun b hb => (hn b hb).2.2.1⟩
  · obtain ⟨c, h1⟩ := H.pln
    exact ⟨c, mv h1 fun b hb => (hn b hb).2.2.2.1⟩
  · exact ((List.dropWhile_sublist _).map _).nodup H.nd
  · obtain ⟨z, hz, rfl⟩ := List.mem_map.mp he
    rw [(cl1 z).2.2.1, (cl1 z).2.2.2]
    have hz1 := H.opn z hz
    have hz2 := H.le z hz
    by_cases hc : z.c.isNone = true ∧ z.p ∈ S
    · have h0 := H.open_at hz hc.1
      have : (clo vals S la z).c = vals[z.p.toNat]? := by unfold clo; rw [if_pos hc]
      rw [this, tick, if_pos hc.2]
      obtain ⟨v, c, h1, _⟩ := hla z.p hc.2
      rw [h1, h0.1]
      constructor
      · intro h; cases h
      · intro h; omega
    · have : (clo vals S la z).c = z.c := by unfold clo; rw [if_neg hc]
      rw [this, hz1, tick]
      split
      · rename_i hp
        have hne : z.c ≠ none := fun h => hc ⟨by rw [h]; rfl, hp⟩
        have : z.t ≠ tms z.p := fun h => hne (hz1.mpr h)
        constructor <;> intro h <;> omega
      · exact Iff.rfl
  · obtain ⟨z, hz, rfl⟩ := List.mem_map.mp he
    obtain ⟨k, k1, k2, k3⟩ := H.ex z hz
    refine ⟨k, k1, by rw [(cl1 z).1]; exact k2, fun v hv => ?_⟩
    injection k2 with e1 e2; injection e2 with e2 _
    by_cases hc : z.c.isNone = true ∧ z.p ∈ S
    · have : (clo vals S la z).c = vals[z.p.toNat]? := by unfold clo; rw [if_pos hc]
      rw [this] at hv
      have h0 := H.open_at hz hc.1
      obtain ⟨x, x1, x2, x3, x4⟩ := H.fi.r3 k k1 (by rw [e2, e1, h0.1])
      obtain ⟨y, y1, y2, y3⟩ := (hS z.p).mp hc.2
      obtain ⟨v', h1, h2⟩ := hdone x x1 (by rw [x2, e1, ← y3]; exact y2)
      rw [x2, e1, hv] at h1
      cases h1
      obtain ⟨t, ht⟩ := ints_at H.iv (show z.p.toNat < vals.length by omega)
      rw [hv] at ht
      exact ⟨by rw [← x3, ← x4]; exact h2, _, _, Option.some.inj ht⟩
    · have : (clo vals S la z).c = z.c := by unfold clo; rw [if_neg hc]
      rw [this] at hv
      obtain ⟨⟨h1, τ, c, h2⟩, hi⟩ := k3 v hv
      refine ⟨⟨mi h1, τ, c, mv h2 (dsame k k1 fun x x1 x2 x3 => ?_)⟩, hi⟩
      obtain ⟨k', k1', kp', kt', ku', kd'⟩ := H.fi.r1 x x1
      have := kuniq k k1 k' k1' (by rw [kd', x3])
      subst this
      have hne : z.t ≠ tms z.p := fun h => by rw [(H.opn z hz).mpr h] at hv; cases hv
      rw [← kp', e1] at kt'
      exact hne (by rw [← e2, kt'])
  · obtain ⟨e, e1, e2⟩ := H.all k hk
    exact ⟨_, List.mem_map_of_mem e1, by rw [(cl1 e).1]; exact e2⟩
  · obtain ⟨z, hz, rfl⟩ := List.mem_map.mp he
    rw [(cl1 z).2.2.1, (cl1 z).2.2.2]
    have := H.le z hz
    unfold tick
    split <;> omega
theorem map_new {x : Str} {m : Str → Option Value} (h : m x = none) : m = fun y => if y = x then none else m y := by
  funext y; by_cases e : y = x
  · subst e; simp [h]
  · simp [e]
theorem ints_get {vs : List Value} {ns : List Int} {j : Nat} {v : Value} (h : IntsAre vs ns) (hv : vs[j]? = some v) : ∃ t, v = .int (ns.getD j 0) t := by
  obtain ⟨t, ht⟩ := ints_at h (List.getElem?_eq_some_iff.mp hv).1
  rw [hv] at ht
  exact ⟨t, Option.some.inj ht⟩
/-- between two turns of the loop over the levels -/
structure SJ (w : World) (ou rw : Addr) (vals : List Value) (ups : List Up) (NB N : Led) (level : Int) (last : Prop) (done rest : List Up) : Prop where
  eq : ups = done ++ rest
  ge : ∀ x ∈ done, level ≤ x.ix
  lt : last → ∀ x ∈ rest, x.ix < level
  st : Step (ou :: rw :: done.map (·.d)) NB N
  row : ∃ c, (rw, listOf (refs done).toArray c) ∈ N
  opn : LiAt N ou (refs rest)
  shut : ∀ x ∈ done, ∃ v, vals[x.ix.toNat]? = some v ∧ UpAt w.params N x.u x.d .none (-1) v
section
variable {w : World} {g dg st ou kn pl rw : Addr} {vals : List Value} {NB N N' : Led} {ups done rest : List Up} {kx : List Kn} {h₀ h h' : Heap} {L : Addr} {level : Int} {last last' : Prop} {c0 : Nat}
theorem SJ.facts (J : SJ w ou rw vals ups NB N level last done rest) (C : HC w g dg st ou kn pl vals NB ups kx) (n : News h₀ L h NB) (mr : (rw, listOf #[] c0) ∈ NB) (nd : (ups.map (·.d)).Nodup) (h1 : st ≠ ou) (h2 : st ≠ rw) :
    GrAt w.params N g dg st ou ∧ LiAt N st vals ∧ Ops w.params N g rest ∧ ∀ {b : Addr} {vs : Array Value} {c : Nat}, (b, listOf vs c) ∈ NB → b ≠ ou → b ≠ rw → (b, listOf vs c) ∈ N := by
  obtain ⟨co, ho⟩ := C.li
  have hd : ∀ x ∈ done, ∃ τ c, (x.d, dictOf (upEs w.params τ (.ref g) x.ix .none) c) ∈ NB := fun x hx => (C.ops x (by rw [J.eq]; exact List.mem_append_left _ hx)).2
  have mv : ∀ {b : Addr} {ob : Obj}, (b, ob) ∈ NB → b ≠ ou → b ≠ rw → (∀ x ∈ done, b ≠ x.d) → (b, ob) ∈ N := fun hb a1 a2 a3 => J.st.keep _ hb (by
    simp only [List.mem_cons, not_or]
    refine ⟨a1, a2, fun hm => ?_⟩
    obtain ⟨x, hx, e⟩ := List.mem_map.mp hm
    exact a3 x hx e.symm)
  have ml : ∀ {b : Addr} {vs : Array Value} {c : Nat}, (b, listOf vs c) ∈ NB → b ≠ ou → b ≠ rw → (b, listOf vs c) ∈ N := fun hb a1 a2 => mv hb a1 a2 fun x hx => by
    obtain ⟨τ, c, h3⟩ := hd x hx
    exact ne_mk1 n hb h3 (by rw [mk_list, mk_up]; decide)
  have mi : ∀ {b C d : Addr}, (b, instObj C d) ∈ NB → (b, instObj C d) ∈ N := fun hb => mv hb (ne_mk1 n hb ho (by rw [mk_inst, mk_list]; exact (by decide : (3 : Nat) ≠ 1))) (ne_mk1 n hb mr (by rw [mk_inst, mk_list]; exact (by decide : (3 : Nat) ≠ 1))) fun x hx => by
    obtain ⟨τ, c, h3⟩ := hd x hx
    exact ne_mk1 n hb h3 (by rw [mk_inst, mk_up]; exact (by decide : (3 : Nat) ≠ 2))
  refine ⟨?_, ?_, fun x hx => ?_, ml⟩
  · obtain ⟨a1, τ, c, a2⟩ := C.gr
    refine ⟨mi a1, τ, c, mv a2 (ne_mk1 n a2 ho (by rw [mk_gr, mk_list]; decide)) (ne_mk1 n a2 mr (by rw [mk_gr, mk_list]; decide)) fun x hx => ?_⟩
    obtain ⟨τ', c', h3⟩ := hd x hx
    exact ne_mk n a2 h3 (by rw [mk_gr, mk_up]; decide)
  · obtain ⟨c, a⟩ := C.stk
    exact ⟨c, ml a h1 h2⟩
  · obtain ⟨a1, τ, c, a2⟩ := C.ops x (by rw [J.eq]; exact List.mem_append_right _ hx)
    refine ⟨mi a1, τ, c, mv a2 (ne_mk1 n a2 ho (by rw [mk_up, mk_list]; decide)) (ne_mk1 n a2 mr (by rw [mk_up, mk_list]; decide)) fun y hy e => ?_⟩
    rw [J.eq, List.map_append, List.nodup_append] at nd
    exact nd.2.2 _ (List.mem_map_of_mem hy) _ (List.mem_map_of_mem hx) e.symm
theorem SJ.next (J : SJ w ou rw vals ups NB N level last done rest) (n : News h₀ L h N) (hs : ups.Pairwise (fun x y => y.ix < x.ix)) (nd : (ups.map (·.d)).Nodup) (hop0 : Ops w.params N g rest) (hrl : rw ≠ ou) {I₀ : Addr} {oI : Obj} (nI : ∀ q ∈ N, q.1 ≠ I₀) {y : Int} (hy : level ≤ y) (hyl : last' → y = level) {crow c22 : Nat}
    (ST : Step (ou :: (rest.takeWhile fun x => decide (y ≤ x.ix)).map (·.d)) ((I₀, oI) :: N) N') (hop : LiAt N' ou (refs (rest.dropWhile fun x => decide (y ≤ x.ix)))) (hsh : ∀ x ∈ rest.takeWhile fun x => decide (y ≤ x.ix), ∃ v, vals[x.ix.toNat]? = some v ∧ UpAt w.params N' x.u x.d .none (-1) v) (hrow : (rw, listOf (refs done).toArray crow) ∈ N) (hou : Mut N ou) :
    SJ w ou rw vals ups NB (off I₀ ((rw, listOf (refs done ++ refs (rest.takeWhile fun x => decide (y ≤ x.ix))).toArray c22) :: off rw N')) level last' (done ++ rest.takeWhile fun x => decide (y ≤ x.ix)) (rest.dropWhile fun x => decide (y ≤ x.ix)) := by
  have hsr : rest.Pairwise (fun x y => y.ix < x.ix) := by rw [J.eq, List.pairwise_append] at hs; exact hs.2.1
  have tw := tw_mem (level := y) hsr
  have dw := dw_mem (level := y) hsr
  have ndr := nd
  rw [J.eq, List.map_append, List.nodup_append] at ndr
  obtain ⟨co, hco⟩ := J.opn
  have hdr : ∀ x ∈ rest, ∃ τ c, (x.d, dictOf (upEs w.params τ (.ref g) x.ix .none) c) ∈ N := fun x hx => (hop0 x hx).2
  have oI0 : ou ≠ I₀ := nI _ hco
  have up2 : ∀ {b : Addr} {ob : Obj}, (b, ob) ∈ N' → b ≠ rw → b ≠ I₀ → (b, ob) ∈ off I₀ ((rw, listOf (refs done ++ refs (rest.takeWhile fun x => decide (y ≤ x.ix))).toArray c22) :: off rw N') := fun hb a1 a2 => mem_off_of (.tail _ (mem_off_of hb a1)) a2
  refine ⟨?_, ?_, ?_, ?_, ?_, ?_, ?_⟩
  · rw [List.append_assoc, List.takeWhile_append_dropWhile]; exact J.eq
  · intro x hx
    rcases List.mem_append.mp hx with hx | hx
    · exact J.ge x hx
    · have := ((tw x).mp hx).2; omega
  · intro hl x hx
    have := ((dw x).mp hx).2
    rw [hyl hl] at this
    exact this
  · have S1 : Step (ou :: rw :: (done ++ rest.takeWhile fun x => decide (y ≤ x.ix)).map (·.d)) NB N' := by
      refine (J.st.wider fun z hz => ?_).trans ((step_cons (p := (I₀, oI))).trans (ST.wider fun z hz => ?_))
      · rw [List.map_append]
        rcases List.mem_cons.mp hz with rfl | hz
        · exact .head _
        rcases List.mem_cons.mp hz with rfl | hz
        · exact .tail _ (.head _)
        · exact .tail _ (.tail _ (List.mem_append_left _ hz))
      · rw [List.map_append]
        rcases List.mem_cons.mp hz with rfl | hz
        · exact .head _
        · exact .tail _ (.tail _ (List.mem_append_right _ hz))
    refine (S1.trans (step_front.wider fun z hz => ?_)).off fun q hq => ?_
    · rw [List.mem_singleton.mp hz]; exact .tail _ (.head _)
    · obtain ⟨o, ho⟩ := J.st.has q hq
      exact nI (q.1, o) ho
  · exact ⟨c22, by rw [show refs (done ++ rest.takeWhile fun x => decide (y ≤ x.ix)) = refs done ++ refs (rest.takeWhile fun x => decide (y ≤ x.ix)) from List.map_append ..]; exact mem_off_of (.head _) (nI (rw, listOf (refs done).toArray crow) hrow)⟩
  · obtain ⟨c, h1⟩ := hop
    exact ⟨c, up2 h1 (Ne.symm hrl) oI0⟩
  · intro x hx
    rcases List.mem_append.mp hx with hx | hx
    · obtain ⟨v, h1, a1, τ, c, a2⟩ := J.shut x hx
      have k1 : (x.u, instObj 81 x.d) ∈ N' := ST.keep _ (.tail _ a1) (by
        simp only [List.mem_cons, not_or]
        refine ⟨hou.ne_inst n a1, fun hm => ?_⟩
        obtain ⟨z, hz, e⟩ := List.mem_map.mp hm
        obtain ⟨τ', c', h3⟩ := hdr z ((tw z).mp hz).1
        exact (Mut.up h3).ne_inst n a1 e.symm)
      have k2 : (x.d, dictOf (upEs w.params τ .none (-1) v) c) ∈ N' := ST.keep _ (.tail _ a2) (by
        simp only [List.mem_cons, not_or]
        refine ⟨ne_mk1 n a2 hco (by rw [mk_up, mk_list]; decide), fun hm => ?_⟩
        obtain ⟨z, hz, e⟩ := List.mem_map.mp hm
        exact ndr.2.2 _ (List.mem_map_of_mem hx) _ (List.mem_map_of_mem ((tw z).mp hz).1) e.symm)
      exact ⟨v, h1, up2 k1 (ne_mk1 n a1 hrow (by rw [mk_inst, mk_list]; exact (by decide : (3 : Nat) ≠ 1))) (nI _ a1), τ, c, up2 k2 (ne_mk1 n a2 hrow (by rw [mk_up, mk_list]; decide)) (nI _ a2)⟩
    · obtain ⟨v, h1, a1, τ, c, a2⟩ := hsh x hx
      obtain ⟨b1, τ', c', b2⟩ := hop0 x ((tw x).mp hx).1
      exact ⟨v, h1, up2 a1 (ne_mk1 n b1 hrow (by rw [mk_inst, mk_list]; exact (by decide : (3 : Nat) ≠ 1))) (nI _ b1), τ, c, up2 a2 (ne_mk1 n b2 hrow (by rw [mk_up, mk_list]; decide)) (nI _ b2)⟩
end
section
variable {w : World} {g dg st ou kn pl rw : Addr} {vals : List Value} {NB N N' : Led} {ups done rest : List Up} {kx : List Kn} {h₀ h h' : Heap} {L : Addr} {level : Int} {last last' : Prop} {c0 : Nat}
theorem SJ.tabs (J : SJ w ou rw vals ups NB N level last done rest) (C : HC w g dg st ou kn pl vals NB ups kx) (n : News h₀ L h NB) (mr : (rw, listOf #[] c0) ∈ NB) (hk : ∀ x ∈ ups, kn ≠ x.d) :
    (∃ o, TabAt prog w N kn o (knTab kx)) ∧ (∀ k ∈ kx, InstIn N k.u k.d) ∧ (∀ b ∈ ou :: rw :: done.map (·.d), Mut NB b) ∧ ∀ ks a, KeyIn prog w NB ks a → KeyIn prog w N ks a := by
  obtain ⟨co, ho⟩ := C.li
  have hd : ∀ x ∈ done, ∃ τ c, (x.d, dictOf (upEs w.params τ (.ref g) x.ix .none) c) ∈ NB := fun x hx => (C.ops x (by rw [J.eq]; exact List.mem_append_left _ hx)).2
  have hm : ∀ b ∈ ou :: rw :: done.map (·.d), Mut NB b := fun b hb => by
    rcases List.mem_cons.mp hb with rfl | hb
    · exact Mut.list ho
    rcases List.mem_cons.mp hb with rfl | hb
    · exact Mut.list mr
    · obtain ⟨x, hx, rfl⟩ := List.mem_map.mp hb
      obtain ⟨τ, c, h3⟩ := hd x hx
      exact Mut.up h3
  obtain ⟨okn, TK⟩ := C.kt
  refine ⟨⟨okn, TK.keep n J.st.keep (Mut.noTup hm) fun hx => ?_⟩, fun k hk' => ?_, hm, fun ks a x => x.keep n J.st.keep (Mut.noTup hm)⟩
  · rcases List.mem_cons.mp hx with e | hx
    · exact ne_mk1 n TK.mem ho (by rw [TK.tab.mk1, mk_list]; decide) e
    rcases List.mem_cons.mp hx with e | hx
    · exact ne_mk1 n TK.mem mr (by rw [TK.tab.mk1, mk_list]; decide) e
    · obtain ⟨x, hx, e⟩ := List.mem_map.mp hx
      exact hk x (by rw [J.eq]; exact List.mem_append_left _ hx) e.symm
  · obtain ⟨a1, P, τ, th, ix, v, c, a2⟩ := C.ins k hk'
    have k1 : (k.u, instObj 81 k.d) ∈ N := J.st.keep _ a1 fun hx => (hm _ hx).ne_inst n a1 rfl
    by_cases hx : ∃ x ∈ done, x.d = k.d
    · obtain ⟨x, x1, x2⟩ := hx
      obtain ⟨v', _, _, τ', c', b2⟩ := J.shut x x1
      exact ⟨k1, _, τ', _, _, _, c', x2 ▸ b2⟩
    · refine ⟨k1, P, τ, th, ix, v, c, J.st.keep _ a2 ?_⟩
      simp only [List.mem_cons, not_or]
      refine ⟨ne_mk1 n a2 ho (by rw [mk_up, mk_list]; decide), ne_mk1 n a2 mr (by rw [mk_up, mk_list]; decide), fun hm' => ?_⟩
      obtain ⟨x, x1, x2⟩ := List.mem_map.mp hm'
      exact hx ⟨x, x1, x2⟩
end
/-- the entries of what is closed -/
theorem entries_of {tms : Int → Int} {kx : List Kn} : ∀ {done : List Up}, (∀ x ∈ done, ∃ k ∈ kx, k.p = x.ix ∧ k.t = tms x.ix ∧ k.u = x.u ∧ k.d = x.d) → ∃ us : List Kn, (us.map fun k => Value.ref k.u) = refs done ∧ (∀ k ∈ us, k ∈ kx) ∧ us.map (·.key) = done.map (fun x => [x.ix, tms x.ix])
  | [], _ => ⟨[], rfl, fun _ h => (nomatch h), rfl⟩
  | x :: r, h => by
    obtain ⟨us, h1, h2, h3⟩ := entries_of (done := r) fun y hy => h y (.tail _ hy)
    obtain ⟨k, k1, k2, k3, k4, _⟩ := h x (.head _)
    refine ⟨k :: us, by rw [List.map_cons, h1, k4]; rfl, fun y hy => ?_, by rw [List.map_cons, h3]; show [k.p, k.t] :: _ = _; rw [k2, k3]; rfl⟩
    rcases List.mem_cons.mp hy with rfl | hy
    · exact k1
    · exact h2 y hy
/-- the data of a list of names -/
theorem NamesAre.data {prog : Program} {w : World} {h₀ : Heap} {L : Addr} {N : Led} {ls kas : List Addr} (h : NamesAre N ls kas) : ∀ {ks : List (Int × Int)}, kas.length = ks.length → (∀ (i : Nat) (a : Addr) (k : Int × Int), kas[i]? = some a → ks[i]? = some k → KeyIn prog w N [k.1, k.2] a) →
    LRs h₀ L N (ls.map Value.ref) (ks.map fun k => .list [.tuple [.int k.1, .int k.2]]) := by
  induction h with
  | nil => intro ks hl _; cases ks with
    | nil => exact .nil
    | cons _ _ => simp at hl
  | cons h _ ih =>
    intro ks hl hk
    cases ks with
    | nil => simp at hl
    | cons k r =>
      obtain ⟨c, hc⟩ := h
      obtain ⟨ok, o1, o2⟩ := hk 0 _ k rfl rfl
      refine .cons (.list hc (.cons (.key o1 o2) .nil)) (ih (by simpa using hl) fun i a k' h1 h2 => hk (i + 1) a k' (by simpa using h1) (by simpa using h2))
/-- addresses that are apart, from lists without repetition -/
theorem nd6 {a b c d e f : Addr} (h : [a, b, c, d, e, f].Nodup) : (a ≠ b ∧ a ≠ c ∧ a ≠ d ∧ a ≠ e ∧ a ≠ f) ∧ (b ≠ c ∧ b ≠ d ∧ b ≠ e ∧ b ≠ f) ∧ (c ≠ d ∧ c ≠ e ∧ c ≠ f) ∧ (d ≠ e ∧ d ≠ f) ∧ e ≠ f := by
  simp only [List.nodup_cons, List.mem_cons, List.not_mem_nil, or_false, not_or] at h
  exact ⟨h.1, h.2.1, h.2.2.1, h.2.2.2.1, h.2.2.2.2.1⟩
theorem nd5 {a b c d e : Addr} (h : [a, b, c, d, e].Nodup) : (a ≠ b ∧ a ≠ c ∧ a ≠ d ∧ a ≠ e) ∧ (b ≠ c ∧ b ≠ d ∧ b ≠ e) ∧ (c ≠ d ∧ c ≠ e) ∧ d ≠ e := by
  simp only [List.nodup_cons, List.mem_cons, List.not_mem_nil, or_false, not_or] at h
  exact ⟨h.1, h.2.1, h.2.2.1, h.2.2.2.1⟩
theorem ni6 {x a b c d e f : Addr} (h : x ∉ [a, b, c, d, e, f]) : x ≠ a ∧ x ≠ b ∧ x ≠ c ∧ x ≠ d ∧ x ≠ e ∧ x ≠ f := by simpa using h
theorem ni5 {x a b c d e : Addr} (h : x ∉ [a, b, c, d, e]) : x ≠ a ∧ x ≠ b ∧ x ≠ c ∧ x ≠ d ∧ x ≠ e := by simpa using h
/-- both grounds beside the lives -/
structure Two (w : World) (tms : Int → Int) (nt : Nat) (g0 dg0 st0 ou0 kn0 g1 dg1 st1 ou1 kn1 lf pl tm : Addr) (vals : List Value) (ns : List Int) (N : Led) (ups0 ups1 : List Up) (kx0 kx1 : List Kn) (lx : List En) : Prop where
  h0 : HI w tms g0 dg0 st0 ou0 kn0 lf pl vals ns N ups0 kx0 lx
  h1 : HI w tms g1 dg1 st1 ou1 kn1 lf pl vals ns N ups1 kx1 lx
  tmo : ∃ o, (tm, o) ∈ N ∧ TimesObj prog w o nt tms
  tlo : (tm == sysModules) = false
  dd : (kx0.map (·.d) ++ kx1.map (·.d)).Nodup
  tabs : [dg0, dg1, kn0, kn1, lf, tm].Nodup
  lsts : [st0, st1, pl, ou0, ou1].Nodup
  kd : ∀ k ∈ kx0 ++ kx1, k.d ∉ [dg0, dg1, kn0, kn1, lf, tm]
  las : ∀ e ∈ lx, e.la ∉ [st0, st1, pl, ou0, ou1]
theorem NamesAre.via {N N' : Led} {ls kas : List Addr} (h : NamesAre N ls kas) (s : ∀ l ∈ ls, ∀ {vs : Array Value} {c : Nat}, (l, listOf vs c) ∈ N → (l, listOf vs c) ∈ N') : NamesAre N' ls kas := by
  induction h with
  | nil => exact .nil
  | cons h _ ih => exact .cons (let ⟨c, x⟩ := h; ⟨c, s _ (.head _) x⟩) (ih fun l hl => s l (.tail _ hl))
theorem shaped_names {ks : List (Int × Int)} : shaped (.list (ks.map fun k => .list [.tuple [.int k.1, .int k.2]])) = true :=
  shaped_list (k := 4) (fun d hd => by obtain ⟨i, _, rfl⟩ := List.mem_map.mp hd; exact ⟨rfl, by simp [PyData.depth, PyData.depthAll]⟩) (by decide)
theorem SJ.done_eq {w : World} {ou rw : Addr} {vals : List Value} {ups done rest : List Up} {NB N : Led} {level : Int} {last : Prop} (J : SJ w ou rw vals ups NB N level last done rest) (h : last) : (ups.takeWhile fun x => decide (level ≤ x.ix)) = done ∧ (ups.dropWhile fun x => decide (level ≤ x.ix)) = rest := by
  have h1 : ∀ x ∈ done, decide (level ≤ x.ix) = true := fun x hx => decide_eq_true (J.ge x hx)
  rw [J.eq, List.takeWhile_append_of_pos h1, List.dropWhile_append_of_pos h1]
  have h2 := J.lt h
  cases hr : rest with
  | nil => simp
  | cons x r =>
    have := h2 x (by rw [hr]; exact .head _)
    rw [List.takeWhile_cons, List.dropWhile_cons, if_neg (by simpa using this), if_neg (by simpa using this), List.append_nil]
    exact ⟨rfl, rfl⟩
end
section
section
variable {w : World} {tms : Int → Int} {nt nt' : Nat} {g0 dg0 st0 ou0 kn0 g1 dg1 st1 ou1 kn1 lf pl tm : Addr} {vals : List Value} {ns : List Int} {N N' : Led} {ups0 ups1 : List Up} {kx0 kx1 : List Kn} {lx : List En} {h₀ h : Heap} {L : Addr} {level : Int} {S : List Int} {la : Int → Addr}
theorem Two.swap (W : Two w tms nt g0 dg0 st0 ou0 kn0 g1 dg1 st1 ou1 kn1 lf pl tm vals ns N ups0 ups1 kx0 kx1 lx) : Two w tms nt g1 dg1 st1 ou1 kn1 g0 dg0 st0 ou0 kn0 lf pl tm vals ns N ups1 ups0 kx1 kx0 lx where
  h0 := W.h1
  h1 := W.h0
  tmo := W.tmo
  tlo := W.tlo
  dd := (List.perm_append_comm.nodup_iff).mp W.dd
  tabs := by
    have p : [dg0, dg1, kn0, kn1, lf, tm].Perm [dg1, dg0, kn1, kn0, lf, tm] := (List.Perm.swap _ _ _).trans (((List.Perm.swap _ _ _).cons _).cons _)
    exact p.nodup_iff.mp W.tabs
  lsts := by
    have p : [st0, st1, pl, ou0, ou1].Perm [st1, st0, pl, ou1, ou0] := (List.Perm.swap _ _ _).trans ((((List.Perm.swap _ _ _).cons _).cons _).cons _)
    exact p.nodup_iff.mp W.lsts
  kd := fun k hk => by
    have := W.kd k (List.mem_append.mpr (List.mem_append.mp hk).symm)
    simp only [List.mem_cons, List.not_mem_nil, or_false, not_or] at this ⊢
    exact ⟨this.2.1, this.1, this.2.2.2.1, this.2.2.1, this.2.2.2.2⟩
  las := fun e he => by
    have := W.las e he
    simp only [List.mem_cons, List.not_mem_nil, or_false, not_or] at this ⊢
    exact ⟨this.2.1, this.1, this.2.2.1, this.2.2.2.2, this.2.2.2.1⟩
abbrev twD (ups : List Up) (level : Int) : List Addr := (ups.takeWhile fun x => decide (level ≤ x.ix)).map (·.d)
theorem Two.half (W : Two w tms nt g0 dg0 st0 ou0 kn0 g1 dg1 st1 ou1 kn1 lf pl tm vals ns N ups0 ups1 kx0 kx1 lx) (n : News h₀ L h N) (hS : ∀ p, p ∈ S ↔ ∃ x ∈ ups0, level ≤ x.ix ∧ x.ix = p)
    (K : Keep (lf :: tm :: ou0 :: ou1 :: (twD ups0 level ++ twD ups1 level)) N N') (hou : LiAt N' ou0 (refs (ups0.dropWhile fun x => decide (level ≤ x.ix))))
    (hdone : ∀ x ∈ ups0.takeWhile fun x => decide (level ≤ x.ix), ∃ v, vals[x.ix.toNat]? = some v ∧ UpAt w.params N' x.u x.d .none (-1) v)
    (hlf : ∃ o, (lf, o) ∈ N' ∧ IsTab prog w o (lfTab (lx.map (clo vals S la)))) (hla : ∀ p ∈ S, ∃ v c, vals[p.toNat]? = some v ∧ (la p, listOf [v].toArray c) ∈ N' ∧ ∀ q ∈ N, q.1 < la p) :
    HI w (tick S tms) g0 dg0 st0 ou0 kn0 lf pl vals ns N' (ups0.dropWhile fun x => decide (level ≤ x.ix)) kx0 (lx.map (clo vals S la)) := by
  obtain ⟨olf, TL⟩ := W.h0.fi.lt
  obtain ⟨okn, TK⟩ := W.h0.fi.kt
  obtain ⟨otm, htm, TO⟩ := W.tmo
  obtain ⟨c0, ho0⟩ := W.h0.fi.li
  obtain ⟨c1, ho1⟩ := W.h1.fi.li
  obtain ⟨cst, hst⟩ := W.h0.stk
  obtain ⟨cpl, hpl⟩ := W.h0.pln
  obtain ⟨hg1, τg, ng, hg2⟩ := W.h0.fi.gr
  have tb := nd6 W.tabs
  have ls := nd5 W.lsts
  have kd0 : ∀ k ∈ kx0, k.d ≠ dg0 ∧ k.d ≠ dg1 ∧ k.d ≠ kn0 ∧ k.d ≠ kn1 ∧ k.d ≠ lf ∧ k.d ≠ tm := fun k hk => ni6 (W.kd k (List.mem_append_left _ hk))
  have kd1 : ∀ k ∈ kx1, k.d ≠ dg0 ∧ k.d ≠ dg1 ∧ k.d ≠ kn0 ∧ k.d ≠ kn1 ∧ k.d ≠ lf ∧ k.d ≠ tm := fun k hk => ni6 (W.kd k (List.mem_append_right _ hk))
  have las := fun e he => ni5 (W.las e he)
  have lat : ∀ e ∈ lx, ∃ c, (e.la, listOf e.c.toList.toArray c) ∈ N := fun e he => W.h0.fi.las e he
  have up0 : ∀ x ∈ ups0, ∃ τ c, (x.d, dictOf (upEs w.params τ (.ref g0) x.ix .none) c) ∈ N := fun x hx => (W.h0.fi.ops x hx).2
  have up1 : ∀ x ∈ ups1, ∃ τ c, (x.d, dictOf (upEs w.params τ (.ref g1) x.ix .none) c) ∈ N := fun x hx => (W.h1.fi.ops x hx).2
  have kup : ∀ k ∈ kx0, ∃ P τ th ix v c, (k.d, dictOf (upEs P τ th ix v) c) ∈ N := fun k hk => (W.h0.fi.ins k hk).2
  have ldict : ∀ {b b' : Addr} {vs : Array Value} {c : Nat} {o : Obj}, (b, listOf vs c) ∈ N → (b', o) ∈ N → (Mine.mk o).1 = 2 → b ≠ b' := fun h1 h2 h3 => ne_mk1 n h1 h2 (by rw [mk_list, h3]; decide)
  have tw0 := tw_mem (level := level) W.h0.fi.sorted
  have tw1 := tw_mem (level := level) W.h1.fi.sorted
  refine W.h0.close n ((List.nodup_append.mp W.dd).1) hS K ?_ ?_ hou (fun x hx hl => hdone x ((tw0 x).mpr ⟨hx, hl⟩)) hlf fun p hp => let ⟨v, c, a1, a2, a3⟩ := hla p hp; ⟨v, c, a1, a2, Nat.ne_of_gt (a3 _ ho0)⟩
  · intro b hb
    rcases List.mem_cons.mp hb with rfl | hb
    · exact Mut.tab TL.mem TL.tab
    rcases List.mem_cons.mp hb with rfl | hb
    · exact Mut.times htm TO
    rcases List.mem_cons.mp hb with rfl | hb
    · exact Mut.list ho0
    rcases List.mem_cons.mp hb with rfl | hb
    · exact Mut.list ho1
    rcases List.mem_append.mp hb with hb | hb
    · obtain ⟨x, hx, rfl⟩ := List.mem_map.mp hb
      obtain ⟨_, _, h1⟩ := up0 x ((tw0 x).mp hx).1
      exact Mut.up h1
    · obtain ⟨x, hx, rfl⟩ := List.mem_map.mp hb
      obtain ⟨_, _, h1⟩ := up1 x ((tw1 x).mp hx).1
      exact Mut.up h1
  · intro b hb
    rcases List.mem_cons.mp hb with rfl | hb
    · exact ⟨tb.1.2.2.2.1, tb.2.2.1.2.1, ldict hst TL.mem TL.tab.mk1, ldict hpl TL.mem TL.tab.mk1, fun k hk e => absurd e (kd0 k hk).2.2.2.2.1, fun e he => let ⟨_, h1⟩ := lat e he; ldict h1 TL.mem TL.tab.mk1⟩
    rcases List.mem_cons.mp hb with rfl | hb
    · exact ⟨tb.1.2.2.2.2, tb.2.2.1.2.2, ldict hst htm TO.mk1, ldict hpl htm TO.mk1, fun k hk e => absurd e (kd0 k hk).2.2.2.2.2, fun e he => let ⟨_, h1⟩ := lat e he; ldict h1 htm TO.mk1⟩
    rcases List.mem_cons.mp hb with rfl | hb
    · exact ⟨Ne.symm (ldict ho0 hg2 rfl), Ne.symm (ldict ho0 TK.mem TK.tab.mk1), ls.1.2.2.1, ls.2.2.1.1, fun k hk e => let ⟨_, _, _, _, _, _, h1⟩ := kup k hk; absurd e (Ne.symm (ldict ho0 h1 rfl)), fun e he => (las e he).2.2.2.1⟩
    rcases List.mem_cons.mp hb with rfl | hb
    · exact ⟨Ne.symm (ldict ho1 hg2 rfl), Ne.symm (ldict ho1 TK.mem TK.tab.mk1), ls.1.2.2.2, ls.2.2.1.2, fun k hk e => let ⟨_, _, _, _, _, _, h1⟩ := kup k hk; absurd e (Ne.symm (ldict ho1 h1 rfl)), fun e he => (las e he).2.2.2.2⟩
    rcases List.mem_append.mp hb with hb | hb
    · obtain ⟨x, hx, rfl⟩ := List.mem_map.mp hb
      obtain ⟨hx1, hx2⟩ := (tw0 x).mp hx
      obtain ⟨_, _, h1⟩ := up0 x hx1
      obtain ⟨k, k1, _, _, _, k2⟩ := W.h0.fi.r1 x hx1
      have kq := kd0 k k1
      rw [k2] at kq
      exact ⟨Ne.symm kq.1, Ne.symm kq.2.2.1, ldict hst h1 rfl, ldict hpl h1 rfl, fun k' hk' e => ⟨x, hx1, hx2, e.symm⟩, fun e he => let ⟨_, h2⟩ := lat e he; ldict h2 h1 rfl⟩
    · obtain ⟨x, hx, rfl⟩ := List.mem_map.mp hb
      obtain ⟨hx1, hx2⟩ := (tw1 x).mp hx
      obtain ⟨_, _, h1⟩ := up1 x hx1
      obtain ⟨k, k1, _, _, _, k2⟩ := W.h1.fi.r1 x hx1
      have kq := kd1 k k1
      rw [k2] at kq
      refine ⟨Ne.symm kq.1, Ne.symm kq.2.2.1, ldict hst h1 rfl, ldict hpl h1 rfl, fun k' hk' e => ?_, fun e he => let ⟨_, h2⟩ := lat e he; ldict h2 h1 rfl⟩
      have := W.dd
      rw [List.nodup_append] at this
      exact absurd (e.trans k2.symm) (this.2.2 _ (List.mem_map_of_mem hk') _ (List.mem_map_of_mem k1))
theorem Two.closed (W : Two w tms nt g0 dg0 st0 ou0 kn0 g1 dg1 st1 ou1 kn1 lf pl tm vals ns N ups0 ups1 kx0 kx1 lx) (n : News h₀ L h N) (hS0 : ∀ p, p ∈ S ↔ ∃ x ∈ ups0, level ≤ x.ix ∧ x.ix = p) (hS1 : ∀ p, p ∈ S ↔ ∃ x ∈ ups1, level ≤ x.ix ∧ x.ix = p)
    (K : Keep (lf :: tm :: ou0 :: ou1 :: (twD ups0 level ++ twD ups1 level)) N N') (hou0 : LiAt N' ou0 (refs (ups0.dropWhile fun x => decide (level ≤ x.ix)))) (hou1 : LiAt N' ou1 (refs (ups1.dropWhile fun x => decide (level ≤ x.ix))))
    (hd0 : ∀ x ∈ ups0.takeWhile fun x => decide (level ≤ x.ix), ∃ v, vals[x.ix.toNat]? = some v ∧ UpAt w.params N' x.u x.d .none (-1) v)
    (hd1 : ∀ x ∈ ups1.takeWhile fun x => decide (level ≤ x.ix), ∃ v, vals[x.ix.toNat]? = some v ∧ UpAt w.params N' x.u x.d .none (-1) v)
    (hlf : ∃ o, (lf, o) ∈ N' ∧ IsTab prog w o (lfTab (lx.map (clo vals S la)))) (htm : ∃ o, (tm, o) ∈ N' ∧ TimesObj prog w o nt' (tick S tms)) (hla : ∀ p ∈ S, ∃ v c, vals[p.toNat]? = some v ∧ (la p, listOf [v].toArray c) ∈ N' ∧ ∀ q ∈ N, q.1 < la p) :
    Two w (tick S tms) nt' g0 dg0 st0 ou0 kn0 g1 dg1 st1 ou1 kn1 lf pl tm vals ns N' (ups0.dropWhile fun x => decide (level ≤ x.ix)) (ups1.dropWhile fun x => decide (level ≤ x.ix)) kx0 kx1 (lx.map (clo vals S la)) where
  h0 := W.half n hS0 K hou0 hd0 hlf hla
  h1 := W.swap.half n hS1 (K.wider fun x hx => by
    simp only [List.mem_cons, List.mem_append] at hx ⊢
    rcases hx with h | h | h | h | h | h
    · exact .inl h
    · exact .inr (.inl h)
    · exact .inr (.inr (.inr (.inl h)))
    · exact .inr (.inr (.inl h))
    · exact .inr (.inr (.inr (.inr (.inr h))))
    · exact .inr (.inr (.inr (.inr (.inl h))))) hou1 hd1 hlf hla
  tmo := htm
  tlo := W.tlo
  dd := W.dd
  tabs := W.tabs
  lsts := W.lsts
  kd := W.kd
  las := fun e he => by
    obtain ⟨z, hz, rfl⟩ := List.mem_map.mp he
    unfold clo
    split
    · rename_i hc
      obtain ⟨v, c, _, _, h3⟩ := hla z.p hc.2
      obtain ⟨_, a1⟩ := W.h0.stk
      obtain ⟨_, a2⟩ := W.h1.stk
      obtain ⟨_, a3⟩ := W.h0.pln
      obtain ⟨_, a4⟩ := W.h0.fi.li
      obtain ⟨_, a5⟩ := W.h1.fi.li
      simp only [List.mem_cons, List.not_mem_nil, or_false, not_or]
      exact ⟨Nat.ne_of_gt (h3 _ a1), Nat.ne_of_gt (h3 _ a2), Nat.ne_of_gt (h3 _ a3), Nat.ne_of_gt (h3 _ a4), Nat.ne_of_gt (h3 _ a5)⟩
    · exact W.las z hz
end
/-- a fact laid aside, out of the walker's sight -/
structure Hid (p : Prop) : Prop where
  h : p
theorem tw_none {ups : List Up} {level : Int} (h : ∀ x ∈ ups, x.ix < level) : (ups.takeWhile fun x => decide (level ≤ x.ix)) = [] ∧ (ups.dropWhile fun x => decide (level ≤ x.ix)) = ups := by
  cases ups with
  | nil => exact ⟨rfl, rfl⟩
  | cons x r =>
    have := h x (.head _)
    rw [List.takeWhile_cons, List.dropWhile_cons, if_neg (by simpa using this), if_neg (by simpa using this)]
    exact ⟨rfl, rfl⟩
section
variable {w : World} {g dg st ou kn pl : Addr} {vals : List Value} {N N' : Led} {ups : List Up} {kx : List Kn} {h₀ h : Heap} {L : Addr} {level : Int}
/-- a ground beside what take_closed has left -/
structure Took (w : World) (g dg st ou kn : Addr) (vals : List Value) (N N' : Led) (ups rest : List Up) (kx : List Kn) : Prop where
  gr : GrAt w.params N' g dg st ou
  stk : LiAt N' st vals
  ops : Ops w.params N' g rest
  kt : ∃ o, TabAt prog w N' kn o (knTab kx)
  ins : ∀ k ∈ kx, InstIn N' k.u k.d
  key : ∀ ks a, KeyIn prog w N ks a → KeyIn prog w N' ks a
  lst : ∀ {b : Addr} {vs : Array Value} {c : Nat}, (b, listOf vs c) ∈ N → b ≠ ou → (b, listOf vs c) ∈ N'
  any : ∀ {b : Addr} {ob : Obj}, (b, ob) ∈ N → b ≠ ou → (∀ x ∈ ups, b ≠ x.d) → (b, ob) ∈ N'
  inst : ∀ {b C d : Addr}, (b, instObj C d) ∈ N → (b, instObj C d) ∈ N'
theorem HC.took (C : HC w g dg st ou kn pl vals N ups kx) (n : News h₀ L h N) (ST : Step (ou :: twD ups level) N N') (hs : ups.Pairwise (fun x y => y.ix < x.ix)) (nd : (ups.map (·.d)).Nodup) (h1 : st ≠ ou) (hk : ∀ x ∈ ups, kn ≠ x.d)
    (hsh : ∀ x ∈ ups.takeWhile fun x => decide (level ≤ x.ix), ∃ v, vals[x.ix.toNat]? = some v ∧ UpAt w.params N' x.u x.d .none (-1) v) :
    Took w g dg st ou kn vals N N' ups (ups.dropWhile fun x => decide (level ≤ x.ix)) kx := by
  obtain ⟨co, ho⟩ := C.li
  have tw := tw_mem (level := level) hs
  have dw := dw_mem (level := level) hs
  have hd : ∀ x ∈ ups, ∃ τ c, (x.d, dictOf (upEs w.params τ (.ref g) x.ix .none) c) ∈ N := fun x hx => (C.ops x hx).2
  have hm : ∀ b ∈ ou :: twD ups level, Mut N b := fun b hb => by
    rcases List.mem_cons.mp hb with rfl | hb
    · exact Mut.list ho
    · obtain ⟨x, hx, rfl⟩ := List.mem_map.mp hb
      obtain ⟨τ, c, h3⟩ := hd x ((tw x).mp hx).1
      exact Mut.up h3
  have mt : ∀ {b : Addr} {ob : Obj}, (b, ob) ∈ N → b ≠ ou → (∀ x ∈ ups.takeWhile fun x => decide (level ≤ x.ix), b ≠ x.d) → (b, ob) ∈ N' := fun hb a1 a3 => ST.keep _ hb (by
    simp only [List.mem_cons, not_or]
    refine ⟨a1, fun hm => ?_⟩
    obtain ⟨x, hx, e⟩ := List.mem_map.mp hm
    exact a3 x hx e.symm)
  have mv : ∀ {b : Addr} {ob : Obj}, (b, ob) ∈ N → b ≠ ou → (∀ x ∈ ups, b ≠ x.d) → (b, ob) ∈ N' := fun hb a1 a3 => mt hb a1 fun x hx => a3 x ((tw x).mp hx).1
  have ml : ∀ {b : Addr} {vs : Array Value} {c : Nat}, (b, listOf vs c) ∈ N → b ≠ ou → (b, listOf vs c) ∈ N' := fun hb a1 => mv hb a1 fun x hx => by
    obtain ⟨τ, c, h3⟩ := hd x hx
    exact ne_mk1 n hb h3 (by rw [mk_list, mk_up]; decide)
  have mi : ∀ {b C d : Addr}, (b, instObj C d) ∈ N → (b, instObj C d) ∈ N' := fun hb => ST.keep _ hb fun hx => (hm _ hx).ne_inst n hb rfl
  obtain ⟨okn, TK⟩ := C.kt
  refine ⟨?_, ?_, fun x hx => ?_, ⟨okn, TK.keep n ST.keep (Mut.noTup hm) fun hx => ?_⟩, fun k hk' => ?_, fun ks a x => x.keep n ST.keep (Mut.noTup hm), ml, mv, mi⟩
  · obtain ⟨a1, τ, c, a2⟩ := C.gr
    refine ⟨mi a1, τ, c, mv a2 (ne_mk1 n a2 ho (by rw [mk_gr, mk_list]; decide)) fun x hx => ?_⟩
    obtain ⟨τ', c', h3⟩ := hd x hx
    exact ne_mk n a2 h3 (by rw [mk_gr, mk_up]; decide)
  · obtain ⟨c, a⟩ := C.stk
    exact ⟨c, ml a h1⟩
  · obtain ⟨x1, x2⟩ := (dw x).mp hx
    obtain ⟨a1, τ, c, a2⟩ := C.ops x x1
    refine ⟨mi a1, τ, c, mt a2 (ne_mk1 n a2 ho (by rw [mk_up, mk_list]; decide)) fun y hy e => ?_⟩
    obtain ⟨y1, y2⟩ := (tw y).mp hy
    obtain ⟨i, hi⟩ := List.mem_iff_getElem?.mp x1
    obtain ⟨j, hj⟩ := List.mem_iff_getElem?.mp y1
    have h1 : (ups.map (·.d))[i]? = some x.d := by rw [List.getElem?_map, hi]; rfl
    have h2 : (ups.map (·.d))[j]? = some x.d := by rw [List.getElem?_map, hj, e]; rfl
    have := (List.getElem?_inj (List.getElem?_eq_some_iff.mp h1).1 nd).mp (h1.trans h2.symm)
    subst this
    rw [hi] at hj
    have := Option.some.inj hj
    subst this
    omega
  · rcases List.mem_cons.mp hx with e | hx
    · exact ne_mk1 n TK.mem ho (by rw [TK.tab.mk1, mk_list]; decide) e
    · obtain ⟨x, hx, e⟩ := List.mem_map.mp hx
      exact hk x ((tw x).mp hx).1 e.symm
  · obtain ⟨a1, P, τ, th, ix, v, c, a2⟩ := C.ins k hk'
    by_cases hx : ∃ x ∈ ups.takeWhile fun x => decide (level ≤ x.ix), x.d = k.d
    · obtain ⟨x, x1, x2⟩ := hx
      obtain ⟨v', _, _, τ', c', b2⟩ := hsh x x1
      exact ⟨mi a1, _, τ', _, _, _, c', x2 ▸ b2⟩
    · exact ⟨mi a1, P, τ, th, ix, v, c, mt a2 (ne_mk1 n a2 ho (by rw [mk_up, mk_list]; decide)) fun x hx' e => hx ⟨x, hx', e.symm⟩⟩
end
section
variable {w : World} {loose : List Str} {mean : ExcName → Option Value} {mg mb : Str → Option Value} {dp un : Nat} {gd : Option (List Code)} {cn : Str} {cs : Scope} {a : Addr} {ccd : Value} {cl : List (Str × Addr)} {outer : List Env} {A₀ : Around} {base h₀ : Heap} {L : Addr} {m : Str → Option Value} {s : Shared} {Q E : Value → Shared → Prop} {news : Led}
/-- take_closed where nothing is left to close -/
theorem takeN_spec {g dg st ou : Addr} {ups : List Up} {vals : List Value} {level : Int} {t : Tok}
    (B : Below A₀ base outer h₀) (F : Fr h₀ L s.heap m) (X : (Mine.Hd.top.heap_1 w.params).In h₀) (N : News h₀ L s.heap news) (T : Top VW loose mean mg mb h₀) (hk : cs.kind = .function) (hd : dp ≤ 450) (hu : un ≤ 500)
    (hg : GrAt w.params news g dg st ou) (hst : LiAt news st vals) (hou : LiAt news ou (refs ups)) (hops : Ops w.params news g ups) (nd : (ups.map (·.d)).Nodup) (ne : st ≠ ou) (hlen : ups.length ≤ 100) (hvl : vals.length ≤ 1000) (hr : ∀ x ∈ ups, 0 ≤ x.ix ∧ x.ix < vals.length)
    (hlt : ∀ x ∈ ups, x.ix < level)
    (post : ∀ l N' k h' tk', Fr h₀ L h' m → News h₀ L h' N' → Step [ou] news N' → (l, listOf #[] k) ∈ N' → (∀ q ∈ news, q.1 < l) → LiAt N' ou (refs ups) → Q (.ref l) { s with heap := h', toks := tk' }) :
    wpAny (model prog w) (ktrTop dp un gd cn cs L a ccd cl outer) (call (.ref 139) [.ref g, .int level t]) Q E s :=
  takeS_spec B F X N T hk hd hu hg hst hou hops nd ne hlen hvl hr fun l N' k h' tk' F' N'' S ml fl op _ => by
    rw [(tw_none hlt).1] at S ml
    rw [(tw_none hlt).2] at op
    exact post l N' k h' tk' F' N'' S ml fl op
/-- a turn's end, from a ledger that went on -/
theorem cturn_step {h₀ : Heap} {L I C D : Addr} {m : Str → Option Value} {s₁ : Shared} {oI oC oD : Obj} {src n N' : Led} {J : Value → Led → Prop} {y : Value} {h' : Heap} {tk : Nat} {fp : List Addr}
    (F : Fr h₀ L h' m) (N : News h₀ L h' N') (S : Step fp ((I, oI) :: (C, oC) :: (D, oD) :: n) N') (off' : ∀ p ∈ n, p.1 ≠ I ∧ p.1 ≠ C ∧ p.1 ≠ D) (nI : I ∉ fp) (nC : C ∉ fp) (nD : D ∉ fp) (hs : ∀ p ∈ src, p ∈ n) (hsf : ∀ p ∈ src, p.1 ∉ fp)
    (hj : Step fp n (off I (off C (off D N'))) → J y (off I (off C (off D N')))) : CTurn h₀ L m s₁ I oI C oC D oD src J y { s₁ with heap := h', toks := tk } := by
  have S' : Step fp n (off I (off C (off D N'))) := (((((step_cons.trans step_cons).trans step_cons).trans S).off fun p hp => (off' p hp).2.2).off fun p hp => (off' p hp).2.1).off fun p hp => (off' p hp).1
  refine cturn (off I (off C (off D N'))) F N ?_ ?_ (fun p hp => S'.keep _ (hs p hp) (hsf p hp)) (hj S')
  · intro p hp
    rcases List.mem_cons.mp hp with rfl | hp
    · exact S.keep _ (.head _) nI
    rcases List.mem_cons.mp hp with rfl | hp
    · exact S.keep _ (.tail _ (.head _)) nC
    rcases List.mem_cons.mp hp with rfl | hp
    · exact S.keep _ (.tail _ (.tail _ (.head _))) nD
    · exact off_sub _ (off_sub _ (off_sub _ hp))
  · intro p hp
    exact ⟨off_ne p hp, off_ne p (off_sub _ hp), off_ne p (off_sub _ (off_sub _ hp))⟩
end
end
section
/-- the comparisons of a sort, at a state that they leave alone, answer by a number of each item -/
def Ora (cmp : Nat → Nat → (Bool → Shared → Prop) → Shared → Prop) (n : Nat) (key : Nat → Int) (s : Shared) : Prop :=
  ∀ i j (C : Bool → Shared → Prop), i < n → j < n → C (decide (key i < key j)) s → cmp i j C s
/-- an order of the items -/
def Ordr (n : Nat) (p : Array Nat) : Prop := p.toList.Perm (List.range n)
abbrev kyAt (key : Nat → Int) (p : Array Nat) (i : Nat) : Int := key (p.getD i 0)
def Incr (key : Nat → Int) (p : Array Nat) (m : Nat) : Prop := ∀ i j, i < j → j < m → kyAt key p i < kyAt key p j
section
variable {cmp : Nat → Nat → (Bool → Shared → Prop) → Shared → Prop} {n : Nat} {key : Nat → Int} {s : Shared} {p : Array Nat}
theorem Ordr.size (h : Ordr n p) : p.size = n := by
  have := h.length_eq
  simpa using this
theorem Ordr.lt (h : Ordr n p) {i : Nat} (hi : i < n) : p.getD i 0 < n := by
  have hs := h.size
  have hi' : i < p.size := by omega
  have e : p.getD i 0 = p[i] := by simp [Array.getD, hi']
  rw [e]
  have : p[i] ∈ List.range n := h.mem_iff.mp (by simp)
  exact List.mem_range.mp this
theorem Ordr.ne (h : Ordr n p) (inj : ∀ i j, i < n → j < n → key i = key j → i = j) {i j : Nat} (hi : i < n) (hj : j < n) (hne : i ≠ j) : kyAt key p i ≠ kyAt key p j := fun e => by
  have hs := h.size
  have e' := inj _ _ (h.lt hi) (h.lt hj) e
  have hi' : i < p.size := by omega
  have hj' : j < p.size := by omega
  have e1 : p.getD i 0 = p.toList[i]'(by simpa using hi') := by simp [Array.getD, hi']
  have e2 : p.getD j 0 = p.toList[j]'(by simpa using hj') := by simp [Array.getD, hj']
  have nd : p.toList.Nodup := h.nodup_iff.mpr List.nodup_range
  rw [e1, e2] at e'
  exact hne ((List.getElem_inj nd).mp e')
theorem Ordr.perm (h : Ordr n p) {p' : Array Nat} (hp : p'.Perm p) : Ordr n p' := (Array.perm_iff_toList_perm.mp hp).trans h
theorem getD_rev {i j : Nat} (hj : j ≤ p.size) (k : Nat) : (kas_rev p i j).getD k 0 = if i ≤ k ∧ k < j then p.getD (i + j - 1 - k) 0 else p.getD k 0 := by
  have e := getElem?_mirror_all (xs := p) (i := i) hj k
  have g : ∀ (q : Array Nat) (x : Nat), q.getD x 0 = (q[x]?).getD 0 := fun q x => by simp [Array.getD_eq_getD_getElem?]
  rw [g, g, g, kas_rev, e]
  split <;> rfl
theorem getD_bubble {src d : Nat} (hs : src < p.size) (hd : d ≤ src) (k : Nat) : (bubble p src d).getD k 0 = if k = src - d then p.getD src 0 else if src - d < k ∧ k ≤ src then p.getD (k - 1) 0 else p.getD k 0 := by
  have e := getElem?_bubble hs d hd k
  have g : ∀ (q : Array Nat) (x : Nat), q.getD x 0 = (q[x]?).getD 0 := fun q x => by simp [Array.getD_eq_getD_getElem?]
  rw [g, g, g, g, e]
  split
  · rfl
  · split <;> rfl
theorem incr_of_step {m : Nat} (h : ∀ i, 1 ≤ i → i < m → kyAt key p (i - 1) < kyAt key p i) : Incr key p m := by
  intro i j hij hj
  induction j with
  | zero => omega
  | succ j ih =>
    have h1 := h (j + 1) (by omega) hj
    rw [Nat.add_sub_cancel] at h1
    rcases Nat.lt_or_ge i j with h2 | h2
    · exact Int.lt_trans (ih h2 (by omega)) h1
    · obtain rfl : i = j := by omega
      exact h1

theorem asc_run (O : Ora cmp n key s) (hp : Ordr n p) (inj : ∀ i j, i < n → j < n → key i = key j → i = j) {G : Nat → Shared → Prop} : ∀ (f a : Nat), 1 ≤ a → a + f ≤ n → (∀ i, 1 ≤ i → i < a → kyAt key p (i - 1) < kyAt key p i) →
    (∀ m, a ≤ m → m ≤ a + f → (∀ i, 1 ≤ i → i < m → kyAt key p (i - 1) < kyAt key p i) → (m = a + f ∨ kyAt key p m < kyAt key p (m - 1)) → G m s) → (kas_asc p f a).kasWp cmp G s
  | 0, a, _, _, hs, h => h a (Nat.le_refl _) (Nat.le_refl _) hs (.inl rfl)
  | f + 1, a, h1, hn, hs, h => by
    refine O _ _ _ (hp.lt (by omega)) (hp.lt (by omega)) ?_
    by_cases c : kyAt key p a < kyAt key p (a - 1)
    · rw [decide_eq_true c]
      exact h a (Nat.le_refl _) (by omega) hs (.inr c)
    · rw [decide_eq_false c]
      have hne := hp.ne inj (i := a) (j := a - 1) (by omega) (by omega) (by omega)
      exact asc_run O hp inj f (a + 1) (by omega) (by omega) (fun i hi hi2 => by
        rcases Nat.lt_or_ge i a with h3 | h3
        · exact hs i hi h3
        · obtain rfl : i = a := by omega
          omega) (fun m hm1 hm2 hm3 hm4 => h m (by omega) (by omega) hm3 (by rcases hm4 with e | e; exact .inl (by omega); exact .inr e))
theorem desc_run (O : Ora cmp n key s) (hp : Ordr n p) (inj : ∀ i j, i < n → j < n → key i = key j → i = j) {G : Array Nat × Nat × Nat → Shared → Prop} : ∀ (f a : Nat), 1 ≤ a → a + f ≤ n → (∀ i, 1 ≤ i → i < a → kyAt key p i < kyAt key p (i - 1)) →
    (∀ m, a ≤ m → m ≤ a + f → (∀ i, 1 ≤ i → i < m → kyAt key p i < kyAt key p (i - 1)) → G (p, m, 0) s) → (kas_desc f p a 0).kasWp cmp G s
  | 0, a, _, _, hs, h => h a (Nat.le_refl _) (Nat.le_refl _) hs
  | f + 1, a, h1, hn, hs, h => by
    refine O _ _ _ (hp.lt (by omega)) (hp.lt (by omega)) ?_
    by_cases c : kyAt key p a < kyAt key p (a - 1)
    · rw [decide_eq_true c]
      exact desc_run O hp inj f (a + 1) (by omega) (by omega) (fun i hi hi2 => by
        rcases Nat.lt_or_ge i a with h3 | h3
        · exact hs i hi h3
        · obtain rfl : i = a := by omega
          omega) (fun m hm1 hm2 hm3 => h m (by omega) (by omega) hm3)
    · rw [decide_eq_false c]
      have hne := hp.ne inj (i := a) (j := a - 1) (by omega) (by omega) (by omega)
      refine O _ _ _ (hp.lt (by omega)) (hp.lt (by omega)) ?_
      have c2 : kyAt key p (a - 1) < kyAt key p a := by omega
      rw [decide_eq_true c2]
      exact h a (Nat.le_refl _) (by omega) hs
theorem count_run (O : Ora cmp n key s) (hp : Ordr n p) (inj : ∀ i j, i < n → j < n → key i = key j → i = j) (h2 : 2 ≤ n) {G : Nat × Array Nat → Shared → Prop}
    (h : ∀ m p', 1 ≤ m → m ≤ n → Ordr n p' → Incr key p' m → G (m, p') s) : (kas_count n p).kasWp cmp G s := by
  unfold kas_count
  rw [KasT.kasWp_bind]
  refine asc_run O hp inj (n - 1) 1 (Nat.le_refl _) (by omega) (fun i hi hi2 => by omega) fun m hm1 hm2 hm3 hm4 => ?_
  have hn1 : 1 + (n - 1) = n := Nat.add_sub_of_le (Nat.le_of_succ_le h2)
  have hmn0 : m ≤ n := hn1 ▸ hm2
  by_cases e : m = n
  · rw [if_pos (by simpa using e)]
    exact h m p hm1 hmn0 hp (incr_of_step hm3)
  · rw [if_neg (by simpa using e)]
    have hm5 := hm4.resolve_left fun q => e (q.trans hn1)
    clear hm4
    by_cases e1 : m > 1
    · rw [if_pos e1]
      refine O _ _ _ (hp.lt (by omega)) (hp.lt (by omega)) ?_
      have := incr_of_step hm3 0 (m - 1) (by omega) (by omega)
      rw [decide_eq_true this]
      exact h m p hm1 hmn0 hp (incr_of_step hm3)
    · rw [if_neg e1]
      obtain rfl : m = 1 := by omega
      unfold kas_descPart
      rw [KasT.kasWp_bind]
      refine desc_run O hp inj (n - (1 + 1)) (1 + 1) (by omega) (by omega) (fun i hi hi2 => ?_) fun m hm1' hm2' hm3' => ?_
      · obtain rfl : i = 1 := by omega
        exact hm5
      · dsimp only
        rw [if_neg (by omega)]
        unfold kas_tail3
        rw [KasT.kasWp_bind]
        have hs := hp.size
        have hmn : m ≤ n := Nat.le_trans hm2' (Nat.le_of_eq (Nat.add_sub_of_le h2))
        have hp' : Ordr n (kas_rev p 0 m) := hp.perm (mirror_perm _ _ _ _)
        refine asc_run O hp' inj (n - m) m (Nat.le_of_succ_le hm1') (Nat.le_of_eq (Nat.add_sub_of_le hmn)) (fun i hi hi2 => ?_) fun k hk1 hk2 hk3 _ => ?_
        · show key _ < key _
          rw [getD_rev (hs.symm ▸ hmn), getD_rev (hs.symm ▸ hmn), if_pos ⟨Nat.zero_le _, Nat.lt_of_le_of_lt (Nat.sub_le _ _) hi2⟩, if_pos ⟨Nat.zero_le _, hi2⟩]
          have := hm3' (m - i) (Nat.sub_pos_of_lt hi2) (Nat.sub_lt (Nat.lt_of_le_of_lt (Nat.zero_le _) hi2) hi)
          rw [show 0 + m - 1 - (i - 1) = m - i by rw [Nat.zero_add, Nat.sub_sub, Nat.add_sub_of_le hi], show 0 + m - 1 - i = m - i - 1 by rw [Nat.zero_add, Nat.sub_right_comm]]
          exact this
        · exact h k _ (Nat.le_trans (Nat.le_of_succ_le hm1') hk1) (Nat.le_trans hk2 (Nat.le_of_eq (Nat.add_sub_of_le hmn))) hp' (incr_of_step hk3)
theorem pl_mid {l r : Nat} (h : l < r) : (l + r) / 2 < r ∧ l ≤ (l + r) / 2 := by omega
theorem pl_cut {l q r f : Nat} (hf : r - l ≤ f + 1) (d1 : q < r) (d2 : l ≤ q) : q - l ≤ f ∧ r - (q + 1) ≤ f := by omega
theorem place_run (O : Ora cmp n key s) (hp : Ordr n p) (inj : ∀ i j, i < n → j < n → key i = key j → i = j) {k : Nat} (hk : k < n) (hs : Incr key p k) {G : Nat → Shared → Prop} : ∀ (f l r : Nat), l ≤ r → r ≤ k → r - l ≤ f → (∀ i, i < l → kyAt key p i < kyAt key p k) → (∀ i, r ≤ i → i < k → kyAt key p k < kyAt key p i) →
    (∀ l, l ≤ k → (∀ i, i < l → kyAt key p i < kyAt key p k) → (∀ i, l ≤ i → i < k → kyAt key p k < kyAt key p i) → G l s) → (kas_place p k f l r).kasWp cmp G s
  | 0, l, r, hlr, hrk, hf, h1, h2, h => h l (by omega) h1 fun i hi => h2 i (by omega)
  | f + 1, l, r, hlr, hrk, hf, h1, h2, h => by
    unfold kas_place
    by_cases hge : l ≥ r
    · rw [if_pos hge]
      exact h l (by omega) h1 fun i hi => h2 i (by omega)
    · rw [if_neg hge]
      obtain ⟨d1, d2⟩ := pl_mid (Nat.lt_of_not_le hge)
      obtain ⟨d5, d6⟩ := pl_cut hf d1 d2
      have d3 := Nat.lt_of_lt_of_le d1 hrk
      have d4 := Nat.lt_trans d3 hk
      refine O _ _ _ (hp.lt hk) (hp.lt d4) ?_
      by_cases c : kyAt key p k < kyAt key p ((l + r) / 2)
      · rw [decide_eq_true c]
        refine place_run O hp inj hk hs f l ((l + r) / 2) d2 (Nat.le_of_lt d3) d5 h1 (fun i hi hi2 => ?_) h
        rcases Nat.lt_or_ge ((l + r) / 2) i with h3 | h3
        · exact Int.lt_trans c (hs _ _ h3 hi2)
        · obtain rfl : i = (l + r) / 2 := Nat.le_antisymm h3 hi
          exact c
      · rw [decide_eq_false c]
        have hne := hp.ne inj (i := k) (j := (l + r) / 2) hk d4 (Nat.ne_of_gt d3)
        refine place_run O hp inj hk hs f ((l + r) / 2 + 1) r d1 hrk d6 (fun i hi => ?_) h2 h
        rcases Nat.lt_or_ge i ((l + r) / 2) with h3 | h3
        · have := hs _ _ h3 d3
          omega
        · obtain rfl : i = (l + r) / 2 := Nat.le_antisymm (Nat.le_of_lt_succ hi) h3
          omega
theorem bin_run (O : Ora cmp n key s) (inj : ∀ i j, i < n → j < n → key i = key j → i = j) {G : Array Nat → Shared → Prop} : ∀ (f k : Nat) (p : Array Nat), Ordr n p → k + f = n → Incr key p k → (∀ p', Ordr n p' → Incr key p' n → G p' s) → (kas_bin f p k).kasWp cmp G s
  | 0, k, p, hp, e, hs, h => h p hp (by rw [← e]; exact hs)
  | f + 1, k, p, hp, e, hs, h => by
    unfold kas_bin
    rw [KasT.kasWp_bind]
    refine place_run O hp inj (by omega) hs k 0 k (by omega) (by omega) (by omega) (fun i hi => by omega) (fun i hi hi2 => by omega) fun l hl h1 h2 => ?_
    have sz := hp.size
    refine bin_run O inj f (k + 1) _ (hp.perm (bubble_perm _ _ _)) (by omega) (fun i j hij hj => ?_) h
    show key _ < key _
    have hks : k < p.size := by omega
    rw [getD_bubble hks (Nat.sub_le _ _), getD_bubble hks (Nat.sub_le _ _)]
    rw [Nat.sub_sub_self hl]
    have A : ∀ i, i < l → kyAt key p i < kyAt key p k := h1
    have B : ∀ i, l ≤ i → i < k → kyAt key p k < kyAt key p i := h2
    by_cases ci : i = l
    · rw [if_pos ci, if_neg (by omega), if_pos (by omega)]
      exact B _ (by omega) (by omega)
    · rw [if_neg ci]
      by_cases cj : j = l
      · rw [if_pos cj, if_neg (by omega)]
        exact A _ (by omega)
      · rw [if_neg cj]
        by_cases di : l < i ∧ i ≤ k
        · rw [if_pos di, if_pos (by omega)]
          exact hs _ _ (by omega) (by omega)
        · rw [if_neg di]
          by_cases dj : l < j ∧ j ≤ k
          · rw [if_pos dj]
            rcases Nat.lt_or_ge i (j - 1) with h3 | h3
            · exact hs _ _ h3 (by omega)
            · omega
          · rw [if_neg dj]
            exact hs _ _ hij (by omega)
theorem sort_run (O : Ora cmp n key s) (inj : ∀ i j, i < n → j < n → key i = key j → i = j) (h2 : 2 ≤ n) {G : Array Nat → Shared → Prop} (h : ∀ p', Ordr n p' → Incr key p' n → G p' s) : (kas_sort n).kasWp cmp G s := by
  unfold kas_sort
  rw [KasT.kasWp_bind]
  refine count_run O (p := List.toArray (List.range n)) (List.Perm.refl _) inj h2 fun m p' h1 hm hp hs => ?_
  dsimp only
  by_cases c : m < n
  · rw [if_pos c]
    exact bin_run O inj _ _ p' hp (by omega) (by rw [Nat.max_eq_left h1]; exact hs) h
  · rw [if_neg c]
    obtain rfl : m = n := by omega
    exact h p' hp hs
end
end
section
abbrev kaVs (es : List En) : List Value := es.map fun e => Value.ref e.ka
abbrev En0 : En := ⟨0, 0, 0, 0, none⟩
theorem kaVs_getD (es : List En) {i : Nat} (hi : i < es.length) : (kaVs es).getD i Value.none = .ref (es.getD i En0).ka := by
  simp [List.getD, hi]
theorem map_range_getD {α : Type} (l : List α) (d : α) : (List.range l.length).map (fun i => l.getD i d) = l := by
  refine List.ext_getElem (by simp) fun i h1 h2 => ?_
  simp [List.getD, h2]
section
variable {prog : Program} {w : World} {A : Around} {E : Value → Shared → Prop} {s : Shared} {h₀ h : Heap} {L l a : Addr} {m : Str → Option Value} {news : Led} {Q : Value → Shared → Prop} {es : List En}
theorem key_seq {p t : Int} {ka : Addr} (k : KeyIn prog w news [p, t] ka) (N : News h₀ L h news) : ∃ o n t1 t2, h.get? ka = some o ∧ o.cls = .type "tuple" ∧ o.data = .seq #[.int p t1, .int t t2] n := by
  obtain ⟨ok, hm, hc, ⟨items⟩, c, hd, hit⟩ := k
  cases hit with
  | cons h1 h2 =>
    cases h2 with
    | cons h3 h4 =>
      cases h4
      obtain ⟨t1, rfl⟩ := Value.isInt_shape h1
      obtain ⟨t2, rfl⟩ := Value.isInt_shape h3
      exact ⟨ok, c, t1, t2, N.get hm, hc, hd⟩
theorem keys_tups (N : News h₀ L h news) : ∀ {es : List En}, (∀ e ∈ es, KeyIn prog w news e.key e.ka) → ∃ fs, KatTups h (kaVs es) fs ∧ fs.length = es.length ∧ ∀ v ∈ fs, ∃ i t, v = Value.int i t
  | [], _ => ⟨[], .nil, rfl, fun _ h => (nomatch h)⟩
  | e :: r, hk => by
    obtain ⟨fs, h1, h2, h3⟩ := keys_tups N (es := r) fun x hx => hk x (.tail _ hx)
    obtain ⟨o, n, t1, t2, g1, g2, g3⟩ := key_seq (hk e (.head _)) N
    exact ⟨.int e.p t1 :: fs, .cons g1 g2 g3 rfl h1, by simp [h2], fun v hv => by
      rcases List.mem_cons.mp hv with rfl | hv
      · exact ⟨_, _, rfl⟩
      · exact h3 v hv⟩
theorem keys_ora (N : News h₀ L s.heap news) (hk : ∀ e ∈ es, KeyIn prog w news e.key e.ka) (hd : (es.map (·.p)).Nodup) : Ora (kas_ask prog w A (tuples' true) (kaVs es)) es.length (fun i => (es.getD i En0).p) s := by
  intro i j C hi hj hC
  unfold kas_ask
  rw [kaVs_getD es hi, kaVs_getD es hj]
  have ei : es.getD i En0 = es[i] := by simp [List.getD, hi]
  have ej : es.getD j En0 = es[j] := by simp [List.getD, hj]
  have hC' : C (decide ((es.getD i En0).p < (es.getD j En0).p)) s := hC
  simp only [ei, ej] at hC' ⊢
  clear hC
  have hC := hC'
  clear hC'
  obtain ⟨o1, n1, t1, u1, a1, a2, a3⟩ := key_seq (hk es[i] (List.getElem_mem hi)) N
  obtain ⟨o2, n2, t2, u2, b1, b2, b3⟩ := key_seq (hk es[j] (List.getElem_mem hj)) N
  refine kat_lt a1 a3 b1 b3 (kat_cons (wpAny_eqBool_int ?_))
  by_cases e : i = j
  · subst e
    simp only [beq_self_eq_true]
    refine kat_yes (kat_cons (wpAny_eqBool_int ?_))
    simp only [beq_self_eq_true]
    refine kat_yes (kat_nil ?_)
    have : decide (es[i].p < es[i].p) = false := decide_eq_false (Int.lt_irrefl _)
    rw [this] at hC
    exact hC
  · have hne : es[i].p ≠ es[j].p := fun he => e ((List.getElem_inj (h₀ := by simpa using hi) (h₁ := by simpa using hj) hd).mp (by simpa using he))
    rw [show (es[i].p == es[j].p) = false from by simpa using hne]
    exact kat_no (oneLt_int hC)
/-- sorted, with reverse, over keys -/
theorem keys_sort {n : Nat} {P : PySem.Fin → Shared → Prop} (F : Fr h₀ L s.heap m) (N : News h₀ L s.heap news) (ho : s.heap.get? a = some (seqObj "list" (kaVs es).toArray n)) (haL : a ≠ L) (ha0 : h₀.get? a = none) (hna : ∀ p ∈ news, p.1 ≠ a)
    (hk : ∀ e ∈ es, KeyIn prog w news e.key e.ka) (hd : (es.map (·.p)).Nodup) (h64 : es.length < 64)
    (h : ∀ es' c h', Fr h₀ L h' m → News h₀ L h' ((a, listOf (kaVs es').toArray c) :: news) → es'.Perm es → es'.Pairwise (fun x y => y.p < x.p) → P (.done (.ret .none)) { s with heap := h' }) :
    wpAny (model prog w) A (Builtin.«list.sort» ⟨[.ref a], [(Str.ofString "reverse", .bool true)]⟩) P E s := by
  have ha : a < s.heap.objs.size := Heap.lt_size ho
  have hvl : (kaVs es).length = es.length := List.length_map ..
  have hsz : (kaVs es).toArray.size = es.length := by rw [List.size_toArray, hvl]
  have s1 := Heap.SameBut.update s.heap a (Obj.mapSeq fun _ => (#[] : Array Value))
  obtain ⟨e1, ho1⟩ : ∃ e1, (s.heap.update a (Obj.mapSeq fun _ => (#[] : Array Value))).get? a = some (seqObj "list" #[] e1) := ⟨_, get?_update_seq ho fun _ => #[]⟩
  have F3 : Fr h₀ L (((s.heap.update a (Obj.mapSeq fun _ => (#[] : Array Value))).push (seqObj "tuple" (kaVs es).toArray 0)).push (seqObj "list" #[] 0)) m := ((kas_fr F s1 haL ha0).push _).push _
  have N2 : News h₀ L (((s.heap.update a (Obj.mapSeq fun _ => (#[] : Array Value))).push (seqObj "tuple" (kaVs es).toArray 0)).push (seqObj "list" #[] 0)) news :=
    (kas_news N s1 hna).grown fun b x e => Heap.get?_push_of_some _ (Heap.get?_push_of_some _ e)
  have ho3 : (((s.heap.update a (Obj.mapSeq fun _ => (#[] : Array Value))).push (seqObj "tuple" (kaVs es).toArray 0)).push (seqObj "list" #[] 0)).get? a = some (seqObj "list" #[] e1) := Heap.get?_push_of_some _ (Heap.get?_push_of_some _ ho1)
  rw [list_sort_rev]
  refine wpAny_bind (listItems_at ho rfl ?_)
  refine wpAny_bind (listUpdate_at ho rfl ?_ (by rw [hsz, sizeLine_eq]; omega) (Nat.zero_le _))
  refine wpAny_bind (seqEpoch_at ho1 rfl ?_)
  refine wpAny_bind (wpAny_newTuple ?_ (by show (kaVs es).length ≤ _; rw [hvl, sizeLine_eq]; omega))
  refine wpAny_bind (wpAny_newList ?_ (Nat.zero_le _))
  refine wpAny_holding ?_
  show wpAny (model prog w) A _ P E { s with heap := ((s.heap.update a (Obj.mapSeq fun _ => (#[] : Array Value))).push (seqObj "tuple" (kaVs es).toArray 0)).push (seqObj "list" #[] 0) }
  generalize hH : ((s.heap.update a (Obj.mapSeq fun _ => (#[] : Array Value))).push (seqObj "tuple" (kaVs es).toArray 0)).push (seqObj "list" #[] 0) = H at F3 N2 ho3
  dsimp only
  rw [if_pos rfl]
  refine wpAny_bind (wpAny_rule ?_)
  -- what is written back
  have fin : ∀ es' : List En, es'.Perm es → es'.Pairwise (fun x y => y.p < x.p) → wpAny (model prog w) A (do
      let touched := (← seqEpoch a) != e1
      Builtin.List.listUpdate (.ref a) fun _ => (kaVs es').toArray
      if let some e := (none : Option Value) then rule "list.sort.comparison-raised"; throw e
      if touched then rule "list.sort.modified"; raiseError "ValueError" "list modified during sort"
      ret .none) P E { s with heap := H } := by
    intro es' pm pw
    have s2 := Heap.SameBut.update H a (Obj.mapSeq fun _ => (kaVs es').toArray)
    obtain ⟨c2, hc2⟩ : ∃ c2, (H.update a (Obj.mapSeq fun _ => (kaVs es').toArray)).get? a = some (seqObj "list" (kaVs es').toArray c2) := ⟨_, get?_update_seq ho3 fun _ => (kaVs es').toArray⟩
    refine wpAny_bind (seqEpoch_at (s := { s with heap := H }) ho3 rfl ?_)
    refine wpAny_bind (listUpdate_at (s := { s with heap := H }) ho3 rfl ?_ (Nat.zero_le _) (by rw [List.size_toArray, List.length_map, pm.length_eq, sizeLine_eq]; omega))
    simp only [bne_self_eq_false, Bool.false_eq_true, if_false]
    refine wpAny_pure (h es' c2 _ (kas_fr F3 s2 haL ha0) (fun p hp => ?_) pm pw)
    rcases List.mem_cons.mp hp with rfl | hp
    · exact ⟨hc2, haL, ha0⟩
    · exact (kas_news N2 s2 hna) p hp
  by_cases h2 : (kaVs es).toArray.size < 2
  · rw [if_pos h2, if_pos h2]
    refine wpAny_bind (wpAny_pure ?_)
    rw [StateT.run_pure]
    refine wpAny_bind (wpAny_pure ?_)
    dsimp only
    have e : (Array.map (fun x : Keyed => x.2) (arrOf (SortSt.mk' general' (if true = true then ((kaVs es).toArray.zip (kaVs es).toArray).reverse else (kaVs es).toArray.zip (kaVs es).toArray) #[] 7 none))).reverse = (kaVs es).toArray := by
      show (Array.map (fun x : Keyed => x.2) ((kaVs es).toArray.zip (kaVs es).toArray).reverse).reverse = _
      apply Array.toList_inj.mp
      simp
      show List.map Prod.snd ((kaVs es).zip (kaVs es)) = kaVs es
      rw [List.map_snd_zip (Nat.le_refl _)]
    simp only [if_true] at e ⊢
    rw [e]
    refine fin es (List.Perm.refl _) ?_
    match es, hsz ▸ h2 with
    | [], _ => exact .nil
    | [x], _ => exact List.pairwise_singleton _ _
    | _ :: _ :: _, h => simp only [List.length_cons] at h; omega
  · rw [if_neg h2, if_neg h2]
    obtain ⟨fs, kt, kl, ki⟩ := keys_tups N2 hk
    refine wpAny_bind (kat_kind (s := { s with heap := H }) (T := .type "int") kt (by omega) (fun v hv => ?_) rfl ?_)
    · obtain ⟨i, t, rfl⟩ := ki v hv
      exact .of_pure rfl
    · have hz : (if true = true then ((kaVs es).toArray.zip (kaVs es).toArray).reverse else (kaVs es).toArray.zip (kaVs es).toArray) = (List.toArray (kaVs es).reverse).zip (List.toArray (kaVs es).reverse) := kat_pairs true rfl
      rw [hz]
      have hr : (kaVs es).reverse = kaVs es.reverse := (List.map_reverse ..).symm
      rw [hr]
      have hlr : (kaVs es.reverse).length = es.reverse.length := List.length_map ..
      have hnd : (es.reverse.map (·.p)).Nodup := by rw [List.map_reverse]; exact (List.reverse_perm _).nodup_iff.mpr hd
      have O := keys_ora (A := A) (s := { s with heap := H }) (es := es.reverse) N2 (fun e he => hk e (List.mem_reverse.mp he)) hnd
      refine wpAny_bind (wpAny_mono (kat_run (s := { s with heap := H }) (vs := kaVs es.reverse) (ks := kaVs es.reverse)
        (Q := fun st' s' => s' = { s with heap := H } ∧ failedOf st' = none ∧ ∃ es' : List En, es'.Perm es ∧ es'.Pairwise (fun x y => y.p < x.p) ∧ ((arrOf st').map (·.2)).reverse = (kaVs es').toArray) (G := fun p s' => s' = { s with heap := H } ∧ Ordr es.reverse.length p ∧ Incr (fun i => (es.reverse.getD i En0).p) p es.reverse.length)
        rfl (by rw [hlr, List.length_reverse]; omega) (by rw [hlr, List.length_reverse]; omega) (fun p st' s' b1 b2 b3 ⟨b4, b5, b6⟩ => ?_) ?_) ?_ fun _ _ e => e)
      · refine ⟨b4, b3, (p.toList.map fun i => es.reverse.getD i En0).reverse, ?_, ?_, ?_⟩
        · refine (List.reverse_perm _).trans ((b5.map _).trans ?_)
          rw [map_range_getD]
          exact List.reverse_perm _
        · rw [List.pairwise_reverse, List.pairwise_map, List.pairwise_iff_getElem]
          intro i j hi hj hij
          have hs := b5.size
          rw [Array.length_toList] at hi hj
          have := b6 i j hij (by omega)
          unfold kyAt at this
          rw [show p.getD i 0 = p.toList[i]'(by simpa using hi) by simp [Array.getD, hi], show p.getD j 0 = p.toList[j]'(by simpa using hj) by simp [Array.getD, hj]] at this
          exact this
        · rw [kat_snds rfl b2]
          apply Array.toList_inj.mp
          rw [Array.toList_reverse]
          show (p.toList.map fun i => (kaVs es.reverse).getD i Value.none).reverse = kaVs (p.toList.map fun i => es.reverse.getD i En0).reverse
          show _ = List.map (fun e : En => Value.ref e.ka) (p.toList.map fun i => es.reverse.getD i En0).reverse
          rw [List.map_reverse, List.map_map]
          congr 1
          refine List.map_congr_left fun i hi => ?_
          exact kaVs_getD es.reverse (List.mem_range.mp (b5.mem_iff.mp hi))
      · rw [hlr]
        exact sort_run O (fun i j hi hj e => by
          rw [show es.reverse.getD i En0 = es.reverse[i] by simp only [List.getD, List.getElem?_eq_getElem hi, Option.getD_some], show es.reverse.getD j En0 = es.reverse[j] by simp only [List.getD, List.getElem?_eq_getElem hj, Option.getD_some]] at e
          exact (List.getElem_inj (h₀ := by rw [List.length_map]; exact hi) (h₁ := by rw [List.length_map]; exact hj) hnd).mp (by rw [List.getElem_map, List.getElem_map]; exact e)) (by rw [List.length_reverse]; omega) fun p' q1 q2 => ⟨rfl, q1, q2⟩
      · rintro ⟨⟨⟩, st'⟩ s' ⟨rfl, hf, es', pm, pw, hout⟩
        dsimp only
        simp only [if_true]
        rw [hout, hf]
        exact fin es' pm pw
/-- sorted(l, reverse=True) of a list of tuples with different first numbers -/
theorem sorted_keys {c : Nat} (F : Fr h₀ L s.heap m) (N : News h₀ L s.heap news) (hm : (l, listOf (es.map fun e => Value.ref e.ka).toArray c) ∈ news) (hk : ∀ e ∈ es, KeyIn prog w news e.key e.ka) (hd : (es.map (·.p)).Nodup) (hlen : es.length < 64)
    (h : ∀ (D : Addr) (es' : List En) (c' : Nat) (h' : Heap) (tk : Nat), Fr h₀ L h' m → News h₀ L h' ((D, listOf (es'.map fun e => Value.ref e.ka).toArray c') :: news) → (∀ q ∈ news, q.1 < D) → es'.Perm es → es'.Pairwise (fun x y => y.p < x.p) → Q (.ref D) { s with heap := h', toks := tk }) :
    wpAny (model prog w) A (call (.builtin "sorted") [.ref l] [(Str.ofString "reverse", .bool true)]) Q E s := by
  have hl := isList N hm
  have hvl : (kaVs es).length = es.length := List.length_map ..
  refine call_function_entry_kw kind_sorted plain_sorted entry_sorted (args_sorted_rev _ _) ?_
  unfold Builtin.«sorted»
  refine wpAny_bind (m := checkCount "sorted" 1 1 _) (wpAny_pure ?_)
  refine wpAny_bind (collect_list hl ?_ (by rw [hvl, sizeLine_eq]; omega))
  refine wpAny_bind (wpAny_newList ?_ (by rw [hvl, sizeLine_eq]; omega))
  have hsz : ((s.heap.push (seqObj "list" #[] 0)).update s.heap.objs.size (Obj.mapSeq (· ++ (kaVs es).toArray))).objs.size = s.heap.objs.size + 1 := by
    rw [Heap.size_update, size_push']
  have hoL : (((s.heap.push (seqObj "list" #[] 0)).update s.heap.objs.size (Obj.mapSeq (· ++ (kaVs es).toArray))).push (seqObj "list" (kaVs es).toArray 0)).get? (s.heap.objs.size + 1) = some (seqObj "list" (kaVs es).toArray 0) := by
    rw [← hsz]; exact Heap.get?_push_size _ rfl
  have keep : ∀ b o, s.heap.get? b = some o → (((s.heap.push (seqObj "list" #[] 0)).update s.heap.objs.size (Obj.mapSeq (· ++ (kaVs es).toArray))).push (seqObj "list" (kaVs es).toArray 0)).get? b = some o := fun b o q => by
    have hlt : b < s.heap.objs.size := Heap.lt_size q
    rw [Heap.get?_push_ne _ _ _ (by rw [hsz]; exact Nat.ne_of_lt (Nat.lt_succ_of_lt hlt)), Heap.get?_update_ne _ _ _ _ (Nat.ne_of_lt hlt), Heap.get?_push_ne _ _ _ (Nat.ne_of_lt hlt)]
    exact q
  have hL : L < s.heap.objs.size := F.ns.lt
  show wpAny _ _ _ _ _ { s with heap := ((s.heap.push (seqObj "list" #[] 0)).update s.heap.objs.size (Obj.mapSeq (· ++ (kaVs es).toArray))).push (seqObj "list" (kaVs es).toArray 0) }
  rw [hsz]
  refine wpAny_bind (wpAny_holding (wpAny_call_entry_kw slot_list_sort ⟨_, hoL, rfl⟩ entry_list_sort ?body (args_list_sort_rev _ _)))
  case body =>
    refine keys_sort (s := { s with heap := ((s.heap.push (seqObj "list" #[] 0)).update s.heap.objs.size (Obj.mapSeq (· ++ (kaVs es).toArray))).push (seqObj "list" (kaVs es).toArray 0) })
      (F.kept keep) (N.grown keep) hoL (Nat.ne_of_gt (Nat.lt_succ_of_lt hL)) (Heap.get?_none_of_le (Nat.le_trans F.above (Nat.le_succ_of_le (Nat.le_of_lt hL))))
      (fun p hp => Nat.ne_of_lt (Nat.lt_succ_of_lt (Heap.lt_size (N p hp).1))) hk hd hlen fun es' c h' F' N' pm pw => ?_
    exact ⟨_, rfl, wpAny_pure ⟨_, rfl, h _ es' c h' _ F' N' (fun q hq => Nat.lt_succ_of_lt (Heap.lt_size (N q hq).1)) pm pw⟩⟩
end
end
section
theorem lay_MClosed : True := by
  k_with_none
  k_with "execs cons" => ((first | (with_reducible show wpAny _ _ (execs _ _) (CutR _) _ _) | (refine cutQ ?_; intro cutR cutH)); refine wpAny_execs_cons ?_; refine cutQ ?_; intro cutR cutH)
  k_with "CutR" => ((first | (refine Cut.go cutH _ _ ?_; (try clear cutH); (try clear cutR)) | refine Cut.go (by assumption) _ _ ?_); (try dsimp only))
  k_with "exec While" => refine stop ?_
  k_with "Back" => refine stop ?_
  k_with "WhileStep" => refine stop ?_
  k_with "call builtin:len" => (k_here; (with_reducible show wpAny _ _ (call (Value.builtin "len") [Value.ref _]) _ _ _); k_dflt (refine' len_L (by k_asm) (by k_mem) (by first | exact List.length_map _ | exact rfl) (by omega) ?_); intro _ _)
  k_with "subscriptTail" => (k_here; (with_reducible show wpAny _ _ (subscriptTail _ _ (Value.ref _) (Value.int _ _)) _ _ _); k_dflt (refine' item_L (by k_asm) (by k_mem) (by first | exact at_refs (by assumption) | assumption | exact rfl) (by omega) ?_ (by with_unfolding_all rfl)))
  k_with "call builtin:list.insert" => (k_here; (with_reducible show wpAny _ _ (call (Value.builtin _) [Value.ref _, Value.int _ _, _]) _ _ _); k_dflt (refine' insert_L (by k_asm) (by k_asm) ?_ ?_ (by k_upd) ?_; (first | assumption | (simp only [List.length_map]; first | assumption | omega)); (simp only [List.length_map]; omega)); intro _ _ _; (try k_sweep))
  k_with "call builtin:list.pop" => (k_here; (with_reducible show wpAny _ _ (call (Value.builtin _) [Value.ref _, Value.int _ _]) _ _ _); k_dflt (refine' pop0_L (by k_asm) (by k_asm) ?_ (by k_upd) ?_; (simp only [List.length_map]; omega)); intro _ _ _; (try k_sweep))
  k_with "call builtin:list.append" => (k_here; (with_reducible show wpAny _ _ (call (Value.builtin _) [Value.ref _, _]) _ _ _); k_dflt (refine' append_L (by k_asm) (by k_asm) ?_ (by k_upd) ?_; (first | omega | (simp only [List.length_map]; omega) | (simp; omega))); intro _ _ _; (try k_sweep))
  k_with "setAttr ref" => (k_here; k_dflt (refine' set_dict (by k_asm) (by k_asm) (by k_asm) (by k_inst) (by exact rfl) (by k_is) (by k_is) (by k_is) (by k_is) (by k_get) (by first | exact put_value | exact put_thread | exact put_index) (by k_upd) (by exact Nat.le_of_ble_eq_true rfl) ?_; k_whole; intro _ _ _; (try k_sweep)))
  k_with "setItem ref int" => (k_here; (with_reducible show wpAny _ _ (setItem (Value.ref _) (Value.int _ _) _) _ _ _); k_dflt (refine' set_L (by k_asm) (by k_asm) (by k_upd) (by first | assumption | omega | (constructor <;> omega)) (by first | omega | (simp only [List.length_map]; omega)) ?_); intro _ _ _; (try k_sweep))
  k_with "exec For Name Attribute cons nil" => refine stop ?_
  k_with "exec For Name Name cons nil" => refine stop ?_
  k_with "TurnE" => refine stop ?_
  k_with "eval ListComp" => refine stop ?_
  k_with "exec Assign cons ListComp" => refine stop ?_
  k_with "CTurn" => refine stop ?_
  k_with "FinE" => refine stop ?_
  k_with "FinA" => refine stop ?_
  k_with "getMethod ref" => (k_here; (with_reducible show wpAny _ _ (getMethod (Value.ref _) (Str.ofString "get") _) _ _ _); k_dflt (refine' times_method (by k_asm) (by k_mem) (by k_asm) ?_))
  k_with "getMethod ref" => (k_here; (with_reducible show wpAny _ _ (getMethod (Value.ref _) (Str.ofString "setdefault") _) _ _ _); k_dflt (refine' tab_method PySem.F.slot_dict_setdefault PySem.F.type_dict_setdefault (by k_asm) (by k_asm) ?_))
  k_with "getMethod ref" => (k_here; (with_reducible show wpAny _ _ (getMethod (Value.ref _) (Str.ofString "values") _) _ _ _); k_dflt (refine' tab_method PySem.F.slot_dict_values PySem.F.type_dict_values (by k_asm) (by k_asm) ?_))
  k_with "call builtin:dict.get" => (k_here; k_dflt (refine' times_get (by k_asm) (by k_mem) (by k_asm) (by k_asm) ?_); intro _ _)
  k_with "call builtin:dict.setdefault" => refine stop ?_
  k_with "storeName" => (k_here; k_dflt (refine' storeC (by k_asm) (by k_asm) (by rfl) (by k_mem) (by k_asm) ?_ (by rfl) (by rfl)); refine stop ?_)
  k_with "setItem ref ref" => refine stop ?_
  k_with "compareOp NotEq ref ref" => refine stop ?_
  k_with "compareOp Eq ref ref" => refine stop ?_
  k_with "compareOp In ref ref" => (k_here; k_dflt (refine' in_T (by exact units1 (by omega)) (by k_asm) (by k_asm) (by k_asm) (by first | k_asm | exact rfl) ?_); intro _)
  k_with "subscriptTail" => (k_here; (with_reducible show wpAny _ _ (subscriptTail _ _ (Value.ref _) (Value.ref _)) _ _ _); k_dflt (refine' item_T (by exact units1 (by omega)) (by k_asm) (by k_asm) (by k_asm) (by k_asm) ?_ (by with_unfolding_all rfl) (by intro _; with_unfolding_all rfl)); intro _; (try dsimp only))
  k_with "call builtin:dict.values" => (k_here; k_dflt (refine' values_T (by k_asm) (by k_asm) (by k_asm) ?_); intro _ _ _ _ _)
  k_with "CTurnC" => refine stop ?_
  k_with "call builtin:sorted" => refine stop ?_
  k_with "subscriptTail Name Slice ref ref" => refine stop ?_
  trivial
--@hide
theorem lay_MClosed1 : True := by
  k_with "subscriptTail" => (k_here; (with_reducible show wpAny _ _ (subscriptTail _ _ (Value.ref _) (Value.int 0 _)) _ _ _); k_dflt (refine' item_Tup (by k_asm) (by k_mem) (by k_asm) ?_ (by with_unfolding_all rfl)); intro _)
  k_with "call ref" => ((first | (with_reducible show wpAny _ _ (call (Value.ref 139) _) _ _ _) | (with_reducible show wpAny _ _ (call (Value.ref 170) _) _ _ _)); refine stop ?_)
  k_with "setItem ref int" => refine stop ?_
  k_with "call builtin:list.extend" => refine stop ?_
  k_with "exec For Name BinOp cons nil" => refine stop ?_
  trivial
abbrev cMap (gl kl tm pl hl : Addr) : Str → Option Value := fun y => if y = Str.ofString "higher" then some (.ref hl) else if y = Str.ofString "plain" then some (.ref pl) else if y = Str.ofString "times" then some (.ref tm) else if y = Str.ofString "known" then some (.ref kl) else if y = Str.ofString "grounds" then some (.ref gl) else none
abbrev cMap2 (rw nm : Addr) (kv : Option Value) (D7 gl kl tm pl hl : Addr) : Str → Option Value := fun y => if y = Str.ofString "row" then some (.ref rw) else if y = Str.ofString "names" then some (.ref nm) else if y = Str.ofString "key" then kv else if y = Str.ofString "gone" then some (.ref D7) else cMap gl kl tm pl hl y
/-- between two turns of the loop over what is gone -/
structure GJ (w : World) (tms : Int → Int) (nt : Nat) (lf tm : Addr) (vals : List Value) (news N₁ : Led) (lx : List En) (i : Nat) (S : List Int) (la : Int → Addr) : Prop where
  lt : ∃ o, (lf, o) ∈ N₁ ∧ IsTab prog w o (lfTab (lx.map (clo vals S la)))
  tm' : ∃ o, (tm, o) ∈ N₁ ∧ TimesObj prog w o (nt + i) (tick S tms)
  st : Step [lf, tm] news N₁
  la' : ∀ p ∈ S, ∃ v c, vals[p.toNat]? = some v ∧ (la p, listOf [v].toArray c) ∈ N₁ ∧ ∀ q ∈ news, q.1 < la p
section
variable {w : World} {loose : List Str} {mean : ExcName → Option Value} {mg mb : Str → Option Value} {dp un : Nat} {gd : Option (List Code)} {cn : Str} {cs : Scope} {a : Addr} {ccd : Value} {cl : List (Str × Addr)} {outer : List Env} {A₀ : Around} {base h₀ : Heap} {L : Addr} {m : Str → Option Value} {s : Shared} {Q E : Value → Shared → Prop} {news : Led}
theorem closed_spec {tms : Int → Int} {nt : Nat} {g0 dg0 st0 ou0 kn0 g1 dg1 st1 ou1 kn1 lf pl tm gl kl hl : Addr} {vals hvs : List Value} {ns hns : List Int} {ups0 ups1 : List Up} {kx0 kx1 : List Kn} {lx : List En} {level : Int} {tl : Tok} {ng nk nh : Nat}
    (B : Below A₀ base outer h₀) (F : Fr h₀ L s.heap m) (X : (Mine.Hd.top.heap_1 w.params).In h₀) (N : News h₀ L s.heap news) (T : Top VW loose mean mg mb h₀) (hk : cs.kind = .function) (hd : dp ≤ 435) (hu : un ≤ 350)
    (W : Two w tms nt g0 dg0 st0 ou0 kn0 g1 dg1 st1 ou1 kn1 lf pl tm vals ns news ups0 ups1 kx0 kx1 lx) (hnt : nt ≤ 50000)
    (hgl : (gl, listOf [Value.ref g0, Value.ref g1].toArray ng) ∈ news) (hkl : (kl, listOf [Value.ref kn0, Value.ref kn1].toArray nk) ∈ news) (hhl : (hl, listOf hvs.toArray nh) ∈ news)
    (hhi : IntsAre hvs hns) (hhlen : hns.length ≤ 60) (hge : ∀ y ∈ hns, level ≤ y) (hglo : gl ∉ [st0, st1, pl, ou0, ou1]) (hklo : kl ∉ [st0, st1, pl, ou0, ou1]) (hhlo : hl ∉ [st0, st1, pl, ou0, ou1])
    (post : ∀ N' S la nt' h' tk', Two w (tick S tms) nt' g0 dg0 st0 ou0 kn0 g1 dg1 st1 ou1 kn1 lf pl tm vals ns N' (ups0.dropWhile fun x => decide (level ≤ x.ix)) (ups1.dropWhile fun x => decide (level ≤ x.ix)) kx0 kx1 (lx.map (clo vals S la)) → nt' ≤ nt + 64 →
      Keep (lf :: tm :: ou0 :: ou1 :: (twD ups0 level ++ twD ups1 level)) news N' → Fr h₀ L h' m → News h₀ L h' N' → Q (.bool true) { s with heap := h', toks := tk' }) :
    wpAny (model prog w) (ktrTop dp un gd cn cs L a ccd cl outer) (call (.ref 180) [.ref gl, .ref kl, .ref lf, .ref tm, .ref pl, .int level tl, .ref hl]) Q E s := by
  refine enterC (f := 180) (binds := [(Str.ofString "grounds", .ref gl), (Str.ofString "known", .ref kl), (Str.ofString "life", .ref lf), (Str.ofString "times", .ref tm), (Str.ofString "plain", .ref pl), (Str.ofString "level", .int level tl), (Str.ofString "higher", .ref hl)]) B F X N T hk (by omega) (by k_is) (by k_is) (by rfl) (by rfl) (by decide +kernel) (by rfl) (by rfl) (by rfl) ?_
  clear F N
  intro g' L' h₁ tk cells F N Y B' X' T' l1
  k_cells Y
  simp only [List.cons_append, List.nil_append] at N
  rename_i o2 o1 d2 d1
  replace d2 : o2.data = .cell (some (.int level tl)) := d2
  replace d1 : o1.data = .cell (some (.ref lf)) := d1
  replace F : Fr g' L' h₁ (cMap gl kl tm pl hl) := F
  have q : ∀ p ∈ news, p.1 ≠ L' + 1 + 1 ∧ p.1 ≠ L' + 1 := fun p hp => ⟨Nat.ne_of_lt (Nat.lt_add_right 1 (Nat.lt_succ_of_lt (l1 p hp))), Nat.ne_of_lt (Nat.lt_succ_of_lt (l1 p hp))⟩
  generalize hNL : (L' + 1 + 1, o2) :: (L' + 1, o1) :: news = NL at N
  have m2 : (L' + 1 + 1, o2) ∈ NL := hNL ▸ .head _
  have m1 : (L' + 1, o1) ∈ NL := hNL ▸ .tail _ (.head _)
  have sb : ∀ p ∈ news, p ∈ NL := fun p hp => hNL ▸ .tail _ (.tail _ hp)
  have nNL : ∀ p ∈ NL, p = (L' + 1 + 1, o2) ∨ p = (L' + 1, o1) ∨ p ∈ news := fun p hp => by
    rw [← hNL] at hp
    rcases List.mem_cons.mp hp with h | hp
    · exact .inl h
    · rcases List.mem_cons.mp hp with h | hp
      · exact .inr (.inl h)
      · exact .inr (.inr hp)
  clear hNL
  have H := W.h0.mono sb
  have hll := H.fi.ll
  obtain ⟨olf, TL⟩ := H.fi.lt
  k_steps
  refine go (comp_E_T (by assumption) (by with_unfolding_all rfl) (by decide) (by rfl) (by decide) (by rfl) ?_)
  k_steps
  refine go (comp_keys_T (fun j ys n => n = NL ∧ ys = ((lx.take j).filter (selE level)).map (fun e => Value.ref e.ka)) rfl F N TL (by rw [lfTab, List.length_map]; omega) ⟨rfl, rfl⟩ ?_ ?_)
  · clear F N
    rintro s5 j v ys n5 I5 oI5 C5 oC5 D5 m5 h5 tk5 E5 hj ⟨e, he, hv5⟩ ⟨rfl, rfl⟩ hs5 hC5 hx5 F5 N5 off5 ne5
    obtain ⟨e, he5, rfl⟩ : ∃ e', lx[j]? = some e' ∧ (e'.key, e'.ka, Value.ref e'.la) = e := by
      rw [lfTab, List.getElem?_map] at he
      exact Option.map_eq_some_iff.mp he
    have hem := List.mem_of_getElem? he5
    replace hv5 : v = .ref e.ka := hv5
    subst hv5
    have T5 : TabAt prog w ((I5, oI5) :: (C5, oC5) :: (D5, LCg.lst (((lx.take j).filter (selE level)).map (fun e => Value.ref e.ka))) :: n5) lf olf (lfTab lx) := TL.mono (.tail _ (.tail _ (.tail _ TL.mem))) fun x hx => (TL.keys x hx).mono fun o ho => .tail _ (.tail _ (.tail _ ho))
    have mk5 : KeyIn prog w ((I5, oI5) :: (C5, oC5) :: (D5, LCg.lst (((lx.take j).filter (selE level)).map (fun e => Value.ref e.ka))) :: n5) e.key e.ka := T5.keys _ (List.mem_map_of_mem hem)
    have hat : atKey (lfTab lx) e.key = some (e.ka, .ref e.la) := atKey_of_mem TL.tab.nodup (mem_lfTab.mpr ⟨e, hem, rfl, rfl⟩)
    refine hide fun gP gQ => ?_
    obtain ⟨cs5, hcs1, hcs2⟩ := H.cint hem
    obtain ⟨nla, hla⟩ := H.fi.las e hem
    obtain ⟨ok5, hok5, tup5⟩ := id mk5
    refine gQ ?_
    clear gQ gP
    have hft : ((lx.take (j + 1)).filter (selE level)).map (fun e => Value.ref e.ka) = ((lx.take j).filter (selE level)).map (fun e => Value.ref e.ka) ++ (if selE level e then [Value.ref e.ka] else []) := by
      rw [List.take_add_one, he5, List.filter_append, List.map_append]
      cases h : selE level e <;> simp [h]
    k_steps
    rename_i l5 hh5 F6 N6 lt6
    refine go (eq_nil N6 (.tail _ (.tail _ (.tail _ (.tail _ hla)))) (.head _) hcs1 hcs2 (units64 (by omega)) ?_)
    have N7 := sub (news' := (I5, oI5) :: (C5, oC5) :: (D5, LCg.lst (((lx.take j).filter (selE level)).map (fun e => Value.ref e.ka))) :: n5) N6 fun p hp => .tail _ hp
    clear N6
    cases hc : e.c.isNone
    · k_steps
      refine go (cturn _ F6 N7 (fun p hp => hp) off5 (fun p hp => by rw [List.mem_singleton.mp hp]; exact TL.mem) ⟨rfl, ?_⟩)
      rw [hft, if_neg (by simp [selE, hc]), List.append_nil]
    · by_cases hle : level ≤ e.p
      · k_steps
        refine go (cturn _ F6 N7 (fun p hp => hp) off5 (fun p hp => by rw [List.mem_singleton.mp hp]; exact TL.mem) ⟨rfl, ?_⟩)
        rw [hft, if_pos (by simp [selE, hc, hle])]
      · k_steps
        refine go (cturn _ F6 N7 (fun p hp => hp) off5 (fun p hp => by rw [List.mem_singleton.mp hp]; exact TL.mem) ⟨rfl, ?_⟩)
        rw [hft, if_neg (by simp [selE, hc, hle]), List.append_nil]
  · rintro h5 ys n5 ⟨rfl, rfl⟩ hm5 D6 h6 tk6 F6 N6 off6
    clear F N
    rw [show (lfTab lx).length = lx.length from List.length_map .., List.take_length] at N6
    k_steps
    refine go (sorted_keys (es := lx.filter (selE level)) F6 N6 (.head _) ?_ ?_ ?_ fun D7 es c7 h7 tk7 F7 N7 lt7 pm7 pw7 => ?_)
    · exact fun e he => (TL.keys _ (List.mem_map_of_mem (List.mem_filter.mp he).1)).mono fun _ h => .tail _ h
    · exact H.gone_nodup
    · exact H.gone_len
    clear F6 N6
    have hgm := fun e he => gone_mem (e := e) pm7 he
    have hD7 : ∀ q ∈ n5, q.1 < D7 := fun q hq => lt7 q (.tail _ hq)
    have m2' : (L' + 1 + 1, o2) ∈ (D7, listOf (es.map fun e => Value.ref e.ka).toArray c7) :: n5 := .tail _ m2
    have m1' : (L' + 1, o1) ∈ (D7, listOf (es.map fun e => Value.ref e.ka).toArray c7) :: n5 := .tail _ m1
    have N8 : News g' L' h7 ((D7, listOf (es.map fun e => Value.ref e.ka).toArray c7) :: n5) := sub N7 fun p hp => by
      rcases List.mem_cons.mp hp with rfl | hp
      · exact .head _
      · exact .tail _ (.tail _ hp)
    clear N7
    generalize hN8 : (D7, listOf (es.map fun e => Value.ref e.ka).toArray c7) :: n5 = n8 at N8 m2' m1'
    have sb8 : ∀ p ∈ news, p ∈ n8 := fun p hp => hN8 ▸ .tail _ (sb p hp)
    have mD7 : (D7, listOf (es.map fun e => Value.ref e.ka).toArray c7) ∈ n8 := hN8 ▸ .head _
    obtain ⟨otm, htm, TO⟩ := W.tmo
    have lf_tm : lf ≠ tm := by have tn := W.tabs; simp only [List.nodup_cons, List.mem_cons, List.not_mem_nil, or_false, not_or] at tn; exact tn.2.2.2.2.1
    have TL8 : TabAt prog w n8 lf olf (lfTab lx) := hN8 ▸ TL.mono (.tail _ TL.mem) fun x hx => (TL.keys x hx).mono fun _ h => .tail _ h
    have hkd := W.kd
    k_steps
    refine go (For_invV g' (by exact rfl) (by exact rfl) ?_)
    k_steps
    rename Fr g' L' _ _ => F9
    rename News g' L' _ _ => N9
    have lf_mem := TL.mem
    have lfn : (lf, olf) ∈ news := by
      obtain ⟨o, T⟩ := W.h0.fi.lt
      rw [news_one N9 TL8.mem (sb8 _ T.mem)]; exact T.mem
    have lf1 : L' + 1 ≠ lf ∧ L' + 1 + 1 ≠ lf := ⟨Ne.symm (q _ lfn).2, Ne.symm (q _ lfn).1⟩
    have tm1 : L' + 1 ≠ tm ∧ L' + 1 + 1 ≠ tm := ⟨Ne.symm (q _ htm).2, Ne.symm (q _ htm).1⟩
    have nt8 : NoTup n8 [lf, tm] := .cons TL8.mem TL8.tab.noTup (.cons (sb8 _ htm) TO.noTup .nil)
    have hKI : ∀ e ∈ lx, ∀ N', Keep [lf, tm] n8 N' → KeyIn prog w N' e.key e.ka := fun e he N' hN' => (TL8.keys _ (List.mem_map_of_mem he)).keep N9 hN' nt8
    obtain ⟨npl, hpln⟩ := W.h0.pln
    have pl_n : pl ∉ [lf, tm] := by
      simp only [List.mem_cons, List.not_mem_nil, or_false, not_or]
      exact ⟨ne_mk1 N9 (sb8 _ hpln) TL8.mem (by rw [mk_list, TL8.tab.mk1]; decide), ne_mk1 N9 (sb8 _ hpln) (sb8 _ htm) (by rw [mk_list, TO.mk1]; decide)⟩
    have D7n : D7 ∉ [lf, tm] := by
      simp only [List.mem_cons, List.not_mem_nil, or_false, not_or]
      exact ⟨ne_mk1 N9 mD7 TL8.mem (by rw [mk_list, TL8.tab.mk1]; decide), ne_mk1 N9 mD7 (sb8 _ htm) (by rw [mk_list, TO.mk1]; decide)⟩
    refine go (for_L (fun i m₁ n₁ => ∃ kv la, m₁ = (fun y => if y = Str.ofString "key" then kv else if y = Str.ofString "gone" then some (.ref D7) else cMap gl kl tm pl hl y) ∧ GJ w tms nt lf tm vals n8 n₁ lx i ((es.take i).map (·.p)) la) rfl F9 N9 mD7 ⟨none, fun _ => 0, ?_, ⟨⟨olf, TL8.mem, by rw [List.take_zero, List.map_nil, clo_nil]; exact TL8.tab⟩, ⟨otm, sb8 _ htm, by unfold tick; simpa using TO⟩, Step.refl, fun _ h => by simp at h⟩⟩ ?_ ?_)
    · funext y
      by_cases h1 : y = Str.ofString "key"
      · subst h1; rfl
      · rw [if_neg h1]
    · clear F9 N9
      rintro i v m₁ n₁ I₀ h tk oI hv ⟨kv, la, rfl, J⟩ hmem hI F N
      obtain ⟨e, hei, rfl⟩ : ∃ e, es[i]? = some e ∧ Value.ref e.ka = v := by
        rw [List.getElem?_map] at hv
        exact Option.map_eq_some_iff.mp hv
      have hem := List.mem_of_getElem? hei
      refine hide fun gP gQ => ?_
      obtain ⟨he1, he2, he3⟩ := hgm e hem
      obtain ⟨ht, hp0, hp1⟩ := W.h0.open_at he1 he2
      obtain ⟨ol, hol, TOl⟩ := J.lt
      obtain ⟨ot, hot, TOt⟩ := J.tm'
      obtain ⟨ti, hti⟩ := ints_at W.h0.iv (show e.p.toNat < vals.length by omega)
      obtain ⟨ok5, hok5, tup5⟩ := hKI e he1 n₁ J.st.keep
      refine gQ ?_
      clear gQ gP
      have hpl5 := J.st.keep _ (sb8 _ hpln) pl_n
      have hm15 := J.st.keep _ m1' (by simp only [List.mem_cons, List.not_mem_nil, or_false, not_or]; exact ⟨lf1.1, tm1.1⟩)
      have hvl := W.h0.fi.vl
      have Ilf : I₀ ≠ lf := Ne.symm (hI _ hol)
      have Itm : I₀ ≠ tm := Ne.symm (hI _ hot)
      have htlo := W.tlo
      have hS : (es.take (i + 1)).map (·.p) = (es.take i).map (·.p) ++ [e.p] := by rw [List.take_add_one, hei, List.map_append]; rfl
      have hpS : e.p ∉ (es.take i).map (·.p) := fun h => by
        obtain ⟨x, hx, hxe⟩ := List.mem_map.mp h
        have h2 := pw7
        rw [← List.take_append_drop i es, List.pairwise_append] at h2
        have := h2.2.2 x hx e (by rw [drop_at hei]; exact .head _)
        omega
      k_steps
      rename_i l3 hh3 F3 N3 lt3
      have T3 : TabAt prog w ((l3, listOf #[Value.int (ns.getD e.p.toNat 0) ti] 0) :: (I₀, oI) :: n₁) lf ol (lfTab (lx.map (clo vals ((es.take i).map (·.p)) la))) := ⟨TL8.lo, .tail _ (.tail _ hol), TOl, fun x hx => by
        refine hide fun gP gQ => ?_
        obtain ⟨y, hy, rfl⟩ := List.mem_map.mp hx
        obtain ⟨z, hz, rfl⟩ := List.mem_map.mp hy
        refine gQ ?_
        clear gQ gP
        have := clo_key (vals := vals) (S := (es.take i).map (·.p)) (la := la) (e := z)
        show KeyIn prog w _ (clo vals _ la z).key (clo vals _ la z).ka
        rw [this.1, this.2.1]
        exact (hKI z hz n₁ J.st.keep).mono fun _ h => .tail _ (.tail _ h)⟩
      have K3 : KeyIn prog w ((l3, listOf #[Value.int (ns.getD e.p.toNat 0) ti] 0) :: (I₀, oI) :: n₁) e.key e.ka := ⟨ok5, .tail _ (.tail _ hok5), tup5⟩
      refine go (set_T (units1 (by omega)) F3 (front N3 (.tail _ (.tail _ hol))) off_ne (T3.front N3) (K3.front N3 (.tail _ (.tail _ hol)) TOl.noTup) (by rw [lfTab, List.length_map, List.length_map]; omega) fun h6 o6 tk6 F6 N6 T6 => ?_)
      have K6 : KeyIn prog w ((lf, o6) :: off lf ((l3, listOf #[Value.int (ns.getD e.p.toNat 0) ti] 0) :: (I₀, oI) :: n₁)) e.key e.ka := K3.front N3 (.tail _ (.tail _ hol)) TOl.noTup
      rw [show (e.key : List Int) = [e.p, e.t] from rfl] at T6
      have T6' : IsTab prog w o6 (lfTab (lx.map (clo vals ((es.take i).map (·.p) ++ [e.p]) (fun y => if y = e.p then l3 else la y)))) := by
        rw [← lfTab_clo TL8.tab.nodup he1 he2 hpS (fun e' h1 h2 h3 => by show [e'.p, e'.t] = [e.p, e.t]; rw [h3, ht, (W.h0.open_at h1 h2).1, h3]) e.ka]; exact T6
      clear F3 N3
      have l3lt : ∀ q ∈ n₁, q.1 < l3 := allLt_lt lt3.2
      have mt6 : (tm, ot) ∈ (lf, o6) :: off lf ((l3, listOf #[Value.int (ns.getD e.p.toNat 0) ti] 0) :: (I₀, oI) :: n₁) := .tail _ (mem_off_of (.tail _ (.tail _ hot)) (Ne.symm lf_tm))
      have mI6 : (I₀, oI) ∈ (lf, o6) :: off lf ((l3, listOf #[Value.int (ns.getD e.p.toNat 0) ti] 0) :: (I₀, oI) :: n₁) := .tail _ (mem_off_of (.tail _ (.head _)) Ilf)
      have ml6 : (l3, listOf #[Value.int (ns.getD e.p.toNat 0) ti] 0) ∈ (lf, o6) :: off lf ((l3, listOf #[Value.int (ns.getD e.p.toNat 0) ti] 0) :: (I₀, oI) :: n₁) := .tail _ (mem_off_of (.head _) (Nat.ne_of_gt (l3lt _ hol)))
      have mf6 : (lf, o6) ∈ (lf, o6) :: off lf ((l3, listOf #[Value.int (ns.getD e.p.toNat 0) ti] 0) :: (I₀, oI) :: n₁) := .head _
      have S6 : Step [lf] n₁ ((lf, o6) :: off lf ((l3, listOf #[Value.int (ns.getD e.p.toNat 0) ti] 0) :: (I₀, oI) :: n₁)) := step_cons.trans (step_cons.trans step_front)
      generalize (lf, o6) :: off lf ((l3, listOf #[Value.int (ns.getD e.p.toNat 0) ti] 0) :: (I₀, oI) :: n₁) = n6 at N6 K6 mt6 mI6 ml6 mf6 S6
      obtain ⟨ok6, hok6, tup6⟩ := id K6
      k_steps
      rename Fr g' L' _ _ => F7
      rename News g' L' _ _ => N7
      refine go (times_set F7 (front N7 mt6) off_ne TOt (by have := (List.getElem?_eq_some_iff.mp hei).1; have := H.gone_len (level := level); have := pm7.length_eq; omega) fun h9 o9 tk9 F9 N9 T9 => ?_)
      rw [tick_snoc hpS] at T9
      clear F7 N7
      k_steps
      rename Fr g' L' _ _ => F8
      rename News g' L' _ _ => N8
      have S9 : Step [lf, tm] n8 ((tm, o9) :: off tm n6) := J.st.trans ((S6.wider (by simp)).trans (step_front.wider (by simp)))
      have nI8 : ∀ q ∈ n8, q.1 ≠ I₀ := fun q hq => let ⟨o, ho⟩ := J.st.has q hq; hI (q.1, o) ho
      refine go (turnE (news' := off I₀ ((tm, o9) :: off tm n6)) F8 N8 ?_ ?_ off_ne ⟨some (.ref e.ka), (fun y => if y = e.p then l3 else la y), ?_, ?_⟩)
      · intro p hp
        rcases List.mem_cons.mp hp with rfl | hp
        · exact .tail _ (mem_off_of mI6 Itm)
        · exact off_sub _ hp
      · intro p hp
        rw [List.mem_singleton.mp hp]
        exact mem_off_of (S9.keep _ mD7 D7n) (hI _ hmem)
      · exact map_same
      · rw [hS]
        refine ⟨⟨o6, mem_off_of (.tail _ (mem_off_of mf6 lf_tm)) (Ne.symm Ilf), T6'⟩, ⟨o9, mem_off_of (.head _) (Ne.symm Itm), T9⟩, S9.off nI8, fun p hp => ?_⟩
        by_cases hpe : p = e.p
        · subst hpe
          simp only [if_true]
          exact ⟨_, 0, hti, mem_off_of (.tail _ (mem_off_of ml6 (Nat.ne_of_gt (l3lt _ hot)))) (Nat.ne_of_gt lt3.1), J.st.lt l3lt⟩
        · simp only [if_neg hpe]
          have hp' : p ∈ (es.take i).map (·.p) := by
            rcases List.mem_append.mp hp with h | h
            · exact h
            · exact absurd (List.mem_singleton.mp h) hpe
          refine hide fun gP gQ => ?_
          obtain ⟨v, c, a1, a2, a3⟩ := J.la' p hp'
          refine gQ ?_
          clear gQ gP
          have alf : la p ≠ lf := Nat.ne_of_gt (a3 _ TL8.mem)
          have atm : la p ≠ tm := Nat.ne_of_gt (a3 _ (sb8 _ htm))
          exact ⟨v, c, a1, mem_off_of (.tail _ (mem_off_of (S6.keep _ a2 (by simpa using alf)) atm)) (hI _ a2), a3⟩
    · have F11n : News g' _ _ n8 := id N9
      have F11h := Hid.mk F11n
      clear F9 N9
      rintro m₁ n₁ h tk ⟨kv, la, rfl, J⟩ hmem F N
      rw [show (es.map fun e => Value.ref e.ka).length = es.length from List.length_map .., List.take_length] at J
      k_steps
      refine go (comp_E (by assumption) (by with_unfolding_all rfl) (by decide) (by rfl) (by decide) (by rfl) ?_)
      k_steps
      rename_i rw1 hrw1 F10 N10 lt10
      refine go (comp_list (l := D7) (n := c7) (vs := es.map fun e => Value.ref e.ka) (fun j ys n => (∀ p ∈ (rw1, listOf #[] 0) :: n₁, p ∈ n) ∧ ∃ ls, ys = ls.map Value.ref ∧ (∀ l ∈ ls, rw1 < l) ∧ NamesAre n ls ((es.take j).map (·.ka))) rfl F10 N10 (.tail _ hmem) (by rw [List.length_map]; have := H.gone_len (level := level); have := pm7.length_eq; omega) ⟨fun _ h => h, [], rfl, fun _ h => (nomatch h), .nil⟩ ?_ ?_)
      · clear F10 N10
        rintro s5 j v ys n5' I5 oI5 C5 oC5 D5 mm5 h5 tk5 E5 hj hv5 ⟨sb5, ls, rfl, hlsl, hnm⟩ hs5 hC5 hx5 F5 N5 off5 ne5
        obtain ⟨e, hej, rfl⟩ : ∃ e, es[j]? = some e ∧ Value.ref e.ka = v := by
          rw [List.getElem?_map] at hv5
          exact Option.map_eq_some_iff.mp hv5
        have off6 : ∀ p ∈ n5', p.1 ≠ I5 ∧ p.1 ≠ C5 ∧ p.1 ≠ D5 := off5
        k_steps
        rename_i l20 hh20 F20 N20 lt20
        refine go (cturn_new F20 N20 off6 ⟨lt20.1, lt20.2.1, lt20.2.2.1⟩ (fun p hp => by rw [List.mem_singleton.mp hp]; exact sb5 _ (.tail _ hmem)) ⟨fun p hp => .tail _ (sb5 p hp), ls ++ [l20], by rw [List.map_append]; rfl, fun l hl => ?_, ?_⟩)
        · rcases List.mem_append.mp hl with hl | hl
          · exact hlsl l hl
          · rw [List.mem_singleton.mp hl]; exact allLt_lt lt20.2.2.2 _ (sb5 _ (.head _))
        rw [List.take_add_one, hej, List.map_append]
        exact (hnm.mono fun p hp => .tail _ hp).snoc ⟨0, .head _⟩
      · rintro h11 ys n11 ⟨sb11, ls, rfl, hlsl, hnm⟩ hm11 D11 h11' tk11 F11 N11 off11
        clear F10 N10
        rw [show (es.map fun e => Value.ref e.ka).length = es.length from List.length_map .., List.take_length] at hnm
        have sbL : ∀ {b : Addr} {vs : List Value} {c : Nat}, (b, listOf vs.toArray c) ∈ news → (b, listOf vs.toArray c) ∈ n₁ := fun {b vs c} hb => J.st.keep _ (sb8 _ hb) (by
          simp only [List.mem_cons, List.not_mem_nil, or_false, not_or]
          exact ⟨ne_mk1 F11n (sb8 _ hb) TL8.mem (by rw [mk_list, TL8.tab.mk1]; decide), ne_mk1 F11n (sb8 _ hb) (sb8 _ htm) (by rw [mk_list, TO.mk1]; decide)⟩)
        have mhl : (hl, listOf hvs.toArray nh) ∈ n11 := sb11 _ (.tail _ (sbL hhl))
        have mgl : (gl, listOf [Value.ref g0, Value.ref g1].toArray ng) ∈ n11 := sb11 _ (.tail _ (sbL hgl))
        have mkl : (kl, listOf [Value.ref kn0, Value.ref kn1].toArray nk) ∈ n11 := sb11 _ (.tail _ (sbL hkl))
        have mut8 : ∀ b ∈ [lf, tm], Mut n8 b := fun b hb => by
          rcases List.mem_cons.mp hb with rfl | hb
          · exact Mut.tab TL8.mem TL8.tab
          · rw [List.mem_singleton.mp hb]; exact Mut.times (sb8 _ htm) TO
        have tb := fun (_ : Unit) => nd6 W.tabs
        have kdn := fun k hk => ni6 (W.kd k hk)
        have lne : ∀ {b : Addr} {vs : Array Value} {c : Nat}, (b, listOf vs c) ∈ news → b ≠ lf ∧ b ≠ tm := fun {b vs c} hb =>
          ⟨ne_mk1 F11n (sb8 _ hb) TL8.mem (by rw [mk_list, TL8.tab.mk1]; decide), ne_mk1 F11n (sb8 _ hb) (sb8 _ htm) (by rw [mk_list, TO.mk1]; decide)⟩
        have C0 : HC w g0 dg0 st0 ou0 kn0 pl vals n11 ups0 kx0 := by
          refine ((W.h0.hc.mono sb8).keep F11n J.st.keep mut8 fun b hb => ?_).mono fun p hp => sb11 _ (.tail _ hp)
          obtain ⟨_, a1⟩ := W.h0.stk
          obtain ⟨_, a2⟩ := W.h0.fi.li
          have t0 := tb ()
          rcases List.mem_cons.mp hb with rfl | hb
          · exact ⟨t0.1.2.2.2.1, t0.2.2.1.2.1, (lne a1).1, (lne a2).1, (lne hpln).1, fun k hk => (kdn k (List.mem_append_left _ hk)).2.2.2.2.1⟩
          · rw [List.mem_singleton.mp hb]
            exact ⟨t0.1.2.2.2.2, t0.2.2.1.2.2, (lne a1).2, (lne a2).2, (lne hpln).2, fun k hk => (kdn k (List.mem_append_left _ hk)).2.2.2.2.2⟩
        have C1 : HC w g1 dg1 st1 ou1 kn1 pl vals n11 ups1 kx1 := by
          refine ((W.h1.hc.mono sb8).keep F11n J.st.keep mut8 fun b hb => ?_).mono fun p hp => sb11 _ (.tail _ hp)
          obtain ⟨_, a1⟩ := W.h1.stk
          obtain ⟨_, a2⟩ := W.h1.fi.li
          have t0 := tb ()
          rcases List.mem_cons.mp hb with rfl | hb
          · exact ⟨t0.2.1.2.2.1, t0.2.2.2.1.1, (lne a1).1, (lne a2).1, (lne hpln).1, fun k hk => (kdn k (List.mem_append_right _ hk)).2.2.2.2.1⟩
          · rw [List.mem_singleton.mp hb]
            exact ⟨t0.2.1.2.2.2, t0.2.2.2.1.2, (lne a1).2, (lne a2).2, (lne hpln).2, fun k hk => (kdn k (List.mem_append_right _ hk)).2.2.2.2.2⟩
        have mrw : (rw1, listOf #[] 0) ∈ n11 := sb11 _ (.head _)
        have mD11 : (D11, LCg.lst (ls.map Value.ref)) ∈ (D11, LCg.lst (ls.map Value.ref)) :: n11 := .head _
        have mc2 : (L' + 1 + 1, o2) ∈ n11 := sb11 _ (.tail _ (J.st.keep _ m2' (by simp only [List.mem_cons, List.not_mem_nil, or_false, not_or]; exact ⟨lf1.2, tm1.2⟩)))
        have mc1 : (L' + 1, o1) ∈ n11 := sb11 _ (.tail _ (J.st.keep _ m1' (by simp only [List.mem_cons, List.not_mem_nil, or_false, not_or]; exact ⟨lf1.1, tm1.1⟩)))
        k_steps
        refine go (For_invV g' (by exact rfl) (by exact rfl) ?_)
        k_steps
        rename IntsAre _ (hns ++ [level]) => iv15
        rename Fr g' L' _ _ => F15
        rename News g' L' _ _ => N15
        have ds1 : (ups1.map (·.d)).Nodup := W.h1.nd
        have NB : News g' _ _ ((D11, LCg.lst (ls.map Value.ref)) :: n11) := sub N15 fun p hp => .tail _ (.tail _ (.tail _ hp))
        have NBh := Hid.mk NB
        have rwn : ∀ q ∈ news, q.1 < rw1 := fun q hq => J.st.lt lt10 q (sb8 q hq)
        rename _ ∧ _ ∧ _ ∧ AllLt _ n11 => lt15
        have Drw := allLt_lt lt15.2.2.2 _ mrw
        dsimp only at Drw
        obtain ⟨co1, ho1⟩ := W.h1.fi.li
        obtain ⟨cs1, hs1⟩ := W.h1.stk
        have ou1rw : ou1 < rw1 := rwn _ ho1
        have st1rw : st1 ≠ rw1 := Nat.ne_of_lt (rwn _ hs1)
        have st1ou : st1 ≠ ou1 := W.h1.ne
        have glo : gl ≠ ou1 := by intro e; apply hglo; rw [e]; simp
        have glrw : gl ≠ rw1 := Nat.ne_of_lt (rwn _ hgl)
        have so1 := W.h1.fi.sorted
        refine go (for_L (fun j m₁ n₁ => ∃ sv done rest, m₁ = (fun y => if y = Str.ofString "step" then sv else cMap2 rw1 D11 kv D7 gl kl tm pl hl y) ∧ SJ w ou1 rw1 vals ups1 ((D11, LCg.lst (ls.map Value.ref)) :: n11) n₁ level (j = hns.length + 1) done rest) rfl F15 N15 (.head _)
          ⟨none, [], ups1, map_new (by rfl), rfl, fun _ h => (nomatch h), fun h => absurd h (by omega), ⟨fun p hp _ => .tail _ (.tail _ (.tail _ hp)), fun p hp => ⟨p.2, .tail _ (.tail _ (.tail _ hp))⟩⟩, ⟨0, .tail _ (.tail _ (.tail _ (.tail _ mrw)))⟩, (C1.li.mono fun _ h => .tail _ (.tail _ (.tail _ (.tail _ h)))), fun _ h => (nomatch h)⟩ ?_ ?_)
        · clear F15 N15
          rintro j v m₁ n₁ I₀ h tk oI hv ⟨sv, done, rest, rfl, J⟩ hmem hI F N
          refine hide fun gP gQ => ?_
          obtain ⟨ty, rfl⟩ := ints_get iv15 hv
          obtain ⟨crow, hrow⟩ := J.row
          have hI2 : ∀ q ∈ n₁, q.1 ≠ I₀ := hI
          obtain ⟨grR, stR, opR, lsR⟩ := J.facts (C1.mono fun _ h => .tail _ h) NB (.tail _ mrw) ds1 st1ou st1rw
          refine gQ ?_
          clear gQ gP
          have mgl2 : (gl, listOf [Value.ref g0, Value.ref g1].toArray ng) ∈ n₁ := lsR (.tail _ mgl) glo glrw
          have tsub : ∀ p ∈ n₁, p ∈ (I₀, oI) :: n₁ := fun p hp => .tail _ hp
          have hvl := W.h1.fi.vl
          have hlr : done.length + rest.length ≤ 60 := by
            have h1 := ups_len so1 W.h1.fi.rng
            rw [J.eq, List.length_append] at h1
            omega
          have ndr : (rest.map (·.d)).Nodup := by
            have := ds1
            rw [J.eq, List.map_append, List.nodup_append] at this
            exact this.2.1
          have rgr : ∀ x ∈ rest, 0 ≤ x.ix ∧ x.ix < vals.length := fun x hx => W.h1.fi.rng x (by rw [J.eq]; exact List.mem_append_right _ hx)
          have hjl : j < (hns ++ [level]).length := by rw [← iv15.length]; exact (List.getElem?_eq_some_iff.mp hv).1
          rw [List.length_append, List.length_singleton] at hjl
          have hge' : level ≤ (hns ++ [level]).getD j 0 ∧ (j + 1 = hns.length + 1 → (hns ++ [level]).getD j 0 = level) := by
            rcases Nat.lt_or_ge j hns.length with h | h
            · have e : (hns ++ [level]).getD j 0 = hns[j] := by rw [List.getD, List.getElem?_append_left h, List.getElem?_eq_getElem h]; rfl
              rw [e]
              exact ⟨hge _ (List.getElem_mem h), fun e => by omega⟩
            · have e0 : j = hns.length := by omega
              have e : (hns ++ [level]).getD j 0 = level := by subst e0; simp [List.getD]
              rw [e]
              exact ⟨Int.le_refl _, fun _ => rfl⟩
          k_steps
          refine go (takeS_spec B' F X' N T' rfl (by omega) (by omega) (grR.mono (fun _ h => tsub _ h) fun _ h => tsub _ h) (stR.mono fun _ h => tsub _ h) (J.opn.mono fun _ h => tsub _ h) (fun x hx => (opR x hx).mono (fun _ h => tsub _ h) fun _ h => tsub _ h) ndr st1ou (by omega) (by omega) rgr fun lt N' kt h' tk' F' N2' ST mlt flt hop hsh => ?_)
          obtain ⟨cou, hcou⟩ := J.opn
          have nn₁ : News g' _ h n₁ := sub N fun p hp => .tail _ hp
          have rw_ou : rw1 ≠ ou1 := Nat.ne_of_gt ou1rw
          have Jn := fun c22 => J.next (last' := j + 1 = hns.length + 1) nn₁ so1 ds1 opR rw_ou hI2 hge'.1 hge'.2 ST hop hsh hrow (Mut.list hcou) (c22 := c22)
          have hrow' : (rw1, listOf (refs done).toArray crow) ∈ N' := ST.keep _ (tsub _ hrow) (by
            simp only [List.mem_cons, not_or]
            refine ⟨rw_ou, fun hm => ?_⟩
            refine hide fun gP gQ => ?_
            obtain ⟨z, hz, e⟩ := List.mem_map.mp hm
            obtain ⟨_, τ', c', h3⟩ := opR z ((tw_mem (by have := so1; rw [J.eq, List.pairwise_append] at this; exact this.2.1) z).mp hz).1
            refine gQ ?_
            clear gQ gP
            exact ne_mk1 nn₁ hrow h3 (by rw [mk_list, mk_up]; decide) e.symm)
          have xdn : ∀ x ∈ rest, ∀ {b : Addr} {vs : Array Value} {c : Nat}, (b, listOf vs c) ∈ n₁ → b ≠ x.d := fun x hx {b vs c} hb => by
            obtain ⟨_, τ', c', h3⟩ := opR x hx
            exact ne_mk1 nn₁ hb h3 (by rw [mk_list, mk_up]; decide)
          have twr : ∀ x ∈ rest.takeWhile fun x => decide ((hns ++ [level]).getD j 0 ≤ x.ix), x ∈ rest := fun x hx => (List.takeWhile_sublist _).subset hx
          have mI' : (I₀, oI) ∈ N' := ST.keep _ (.head _) (by
            simp only [List.mem_cons, not_or]
            refine ⟨Ne.symm (hI2 _ hcou), fun hm => ?_⟩
            refine hide fun gP gQ => ?_
            obtain ⟨z, hz, e⟩ := List.mem_map.mp hm
            obtain ⟨_, τ', c', h3⟩ := opR z (twr z hz)
            refine gQ ?_
            clear gQ gP
            exact hI2 _ h3 e)
          have mW' := ST.keep _ (tsub _ hmem) (by
            simp only [List.mem_cons, not_or]
            refine ⟨Nat.ne_of_gt (Nat.lt_trans ou1rw Drw), fun hm => ?_⟩
            obtain ⟨z, hz, e⟩ := List.mem_map.mp hm
            exact xdn z (twr z hz) hmem e.symm)
          have ltw := (List.takeWhile_sublist (fun x : Up => decide ((hns ++ [level]).getD j 0 ≤ x.ix)) (l := rest)).length_le
          clear F N nn₁
          k_steps
          refine go (extend_S F' N2' hrow' mlt (Nat.ne_of_lt (flt _ (tsub _ hrow))) (by rw [List.length_map]; omega) (by rw [List.length_map]; omega) fun h22 c22 F22 N22 => ?_)
          clear F' N2'
          k_steps
          refine go (turnE (news' := off I₀ ((rw1, listOf (refs done ++ refs (rest.takeWhile fun x => decide ((hns ++ [level]).getD j 0 ≤ x.ix))).toArray c22) :: off rw1 N')) F22 N22 ?_ ?_ off_ne ⟨some (.int ((hns ++ [level]).getD j 0) ty), _, _, ?_, Jn c22⟩)
          · intro p hp
            rcases List.mem_cons.mp hp with rfl | hp
            · exact .tail _ (mem_off_of mI' (Ne.symm (hI2 _ hrow)))
            · exact off_sub _ hp
          · intro p hp
            rw [List.mem_singleton.mp hp]
            exact mem_off_of (.tail _ (mem_off_of mW' (Nat.ne_of_gt Drw))) (hI2 _ hmem)
          · exact map_same
        · clear F15 N15
          rintro m₁ n₁ h tk ⟨sv, done, rest, rfl, J2⟩ hmem F N
          rw [show (_ : List Value).length = hns.length + 1 from by rw [iv15.length, List.length_append]; rfl] at J2
          have hlast := J2.lt rfl
          have dup1 : ∀ x ∈ ups1, ∃ k ∈ kx1, k.d = x.d := fun x hx => let ⟨k, k1, _, k3⟩ := C1.sub x hx; ⟨k, k1, k3⟩
          obtain ⟨⟨okn1, TK1⟩, IN1, mut1, key1⟩ := J2.tabs (C1.mono fun _ h => .tail _ h) NB (.tail _ mrw) (fun x hx => by
            obtain ⟨k, k1, k2⟩ := dup1 x hx
            rw [← k2]; exact Ne.symm (kdn k (List.mem_append_right _ k1)).2.2.2.1)
          refine hide fun gP gQ => ?_
          obtain ⟨grR, stR, opR, lsR⟩ := J2.facts (C1.mono fun _ h => .tail _ h) NB (.tail _ mrw) ds1 st1ou st1rw
          have klo : kl ≠ ou1 := by intro e; apply hklo; rw [e]; simp
          have mkl2 : (kl, listOf [Value.ref kn0, Value.ref kn1].toArray nk) ∈ n₁ := lsR (.tail _ mkl) klo (Nat.ne_of_lt (rwn _ hkl))
          have mgl2 : (gl, listOf [Value.ref g0, Value.ref g1].toArray ng) ∈ n₁ := lsR (.tail _ mgl) glo glrw
          obtain ⟨crow, hrow⟩ := J2.row
          obtain ⟨us1, u1, u2, u3⟩ := entries_of (tms := tms) (kx := kx1) (done := done) (fun x hx => W.h1.fi.r1 x (by rw [J2.eq]; exact List.mem_append_left _ hx))
          refine gQ ?_
          clear gQ gP
          have us1n : us1.length ≤ 1000 := by
            have h1 : us1.length = done.length := by simpa using congrArg List.length u3
            have h2 := congrArg List.length J2.eq
            rw [List.length_append] at h2
            have h3 := ups_len W.h1.fi.sorted W.h1.fi.rng
            have h4 := W.h1.fi.vl
            omega
          rw [← u1] at hrow
          k_steps
          refine go (names_spec (us := us1) B' F X' N T' rfl (by omega) (by omega) TK1 hrow u2 us1n W.h1.fi.kl IN1 W.h1.fi.r2 fun D17 ls17 c17 N17 h17 tk17 F17 N17n sb17 mD17 nm17 => ?_)
          clear F N
          have hde := (J2.done_eq rfl).1
          have esp : es.map (·.p) = done.map (·.ix) := by rw [← hde]; exact W.h1.gone_eq pm7 pw7
          have esl : es.length = done.length := by simpa using congrArg List.length esp
          have usl : us1.length = done.length := by simpa using congrArg List.length u3
          have nm2 : NamesAre N17 ls (es.map (·.ka)) := (hnm.via fun l hl {vs c} hx => lsR (.tail _ hx) (Nat.ne_of_gt (Nat.lt_trans ou1rw (hlsl l hl))) (Nat.ne_of_gt (hlsl l hl))).mono sb17
          have ke2 : ∀ e ∈ es, KeyIn prog w N17 e.key e.ka := fun e he => (key1 _ _ ((hKI e (hgm e he).1 _ J.st.keep).mono fun _ h => .tail _ (sb11 _ (.tail _ h)))).mono fun _ h => sb17 _ h
          have datF : ∀ N : Led, NamesAre N ls (es.map (·.ka)) → (∀ e ∈ es, KeyIn prog w N e.key e.ka) → LRs g' L' N (ls.map Value.ref) ((done.map fun x => (x.ix, tms x.ix)).map fun k => .list [.tuple [.int k.1, .int k.2]]) := fun N nm ke => by
            refine nm.data (prog := prog) (w := w) (by rw [List.length_map, List.length_map, esl]) fun i a k h1 h2 => ?_
            rw [List.getElem?_map] at h1 h2
            refine hide fun gP gQ => ?_
            obtain ⟨e, e1, rfl⟩ := Option.map_eq_some_iff.mp h1
            obtain ⟨x, x1, rfl⟩ := Option.map_eq_some_iff.mp h2
            refine gQ ?_
            clear gQ gP
            have h3 := congrArg (fun l : List Int => l[i]?) esp
            simp only [List.getElem?_map, e1, x1, Option.map_some, Option.some.injEq] at h3
            obtain ⟨g1', g2', _⟩ := hgm e (List.mem_of_getElem? e1)
            have ht := (W.h0.open_at g1' g2').1
            have := ke e (List.mem_of_getElem? e1)
            rw [show e.key = [e.p, e.t] from rfl, ht, h3] at this
            exact this
          have dat11 := datF N17 nm2 ke2
          have dat17 : LRs g' L' N17 (ls17.map Value.ref) ((done.map fun x => (x.ix, tms x.ix)).map fun k => .list [.tuple [.int k.1, .int k.2]]) := by
            refine nm17.data (prog := prog) (w := w) (by rw [List.length_map, List.length_map, usl]) fun i a k h1 h2 => ?_
            rw [List.getElem?_map] at h1 h2
            refine hide fun gP gQ => ?_
            obtain ⟨e, e1, rfl⟩ := Option.map_eq_some_iff.mp h1
            obtain ⟨x, x1, rfl⟩ := Option.map_eq_some_iff.mp h2
            refine gQ ?_
            clear gQ gP
            have h3 := congrArg (fun l : List (List Int) => l[i]?) u3
            simp only [List.getElem?_map, e1, x1, Option.map_some, Option.some.injEq] at h3
            have : KeyIn prog w N17 e.key e.ka := (TK1.keys _ (List.mem_map_of_mem (u2 e (List.mem_of_getElem? e1)))).mono fun _ h => sb17 _ h
            rw [h3] at this
            exact this
          have D11n := off1_mem off11
          have D11ou1 : D11 ≠ ou1 := let ⟨_, h1⟩ := C1.li; Ne.symm (D11n _ h1)
          have D11ou0 : D11 ≠ ou0 := let ⟨_, h1⟩ := C0.li; Ne.symm (D11n _ h1)
          have D11rw : D11 ≠ rw1 := Ne.symm (D11n _ mrw)
          have mD11b : (D11, LCg.lst (ls.map Value.ref)) ∈ N17 := sb17 _ (lsR (vs := (ls.map Value.ref).toArray) (c := (ls.map Value.ref).length) (.head _) D11ou1 D11rw)
          k_steps
          refine go (ne_LR N17n (.list mD17 dat17) (.list (n := (ls.map Value.ref).length) mD11b dat11) shaped_names (units64 (by omega)) ?_)
          have mkl3 := sb17 _ mkl2
          have mgl3 := sb17 _ mgl2
          have ln := fun (_ : Unit) => nd5 W.lsts
          have C0n : HC w g0 dg0 st0 ou0 kn0 pl vals n₁ ups0 kx0 := by
            refine (C0.mono fun _ h => .tail _ h).keep NB J2.st.keep mut1 fun b hb => ?_
            refine hide fun gP gQ => ?_
            obtain ⟨_, a1⟩ := W.h0.stk
            obtain ⟨_, a2⟩ := W.h0.fi.li
            obtain ⟨_, τ0, c0, a3⟩ := W.h0.fi.gr
            obtain ⟨_, T0⟩ := W.h0.fi.kt
            obtain ⟨_, τ1, c1', a4⟩ := C0.gr
            obtain ⟨_, T1⟩ := C0.kt
            obtain ⟨_, o1N⟩ := C1.li
            refine gQ ?_
            clear gQ gP
            have l0 := ln ()
            rcases List.mem_cons.mp hb with hb | hb
            · rw [hb]
              refine ⟨ne_mk1 NB (.tail _ a4) (.tail _ o1N) (by rw [mk_gr, mk_list]; decide), ne_mk1 NB (.tail _ T1.mem) (.tail _ o1N) (by rw [T1.tab.mk1, mk_list]; decide), l0.1.2.2.2, l0.2.2.2, l0.2.2.1.2, fun k hk => ?_⟩
              refine hide fun gP gQ => ?_
              obtain ⟨_, P, τ, th, ix, v, c, b2⟩ := C0.ins k hk
              refine gQ ?_
              clear gQ gP
              exact ne_mk1 NB (.tail _ b2) (.tail _ o1N) (by rw [mk_up, mk_list]; decide)
            rcases List.mem_cons.mp hb with hb | hb
            · rw [hb]
              refine ⟨Nat.ne_of_lt (rwn _ a3), Nat.ne_of_lt (rwn _ T0.mem), Nat.ne_of_lt (rwn _ a1), Nat.ne_of_lt (rwn _ a2), Nat.ne_of_lt (rwn _ hpln), fun k hk => ?_⟩
              refine hide fun gP gQ => ?_
              obtain ⟨_, P, τ, th, ix, v, c, b2⟩ := W.h0.fi.ins k hk
              refine gQ ?_
              clear gQ gP
              exact Nat.ne_of_lt (rwn _ b2)
            · obtain ⟨x, hx, rfl⟩ := List.mem_map.mp hb
              have hxu : x ∈ ups1 := by rw [J2.eq]; exact List.mem_append_left _ hx
              refine hide fun gP gQ => ?_
              obtain ⟨k, k1, k2⟩ := dup1 x hxu
              obtain ⟨_, τ, c, b2⟩ := C1.ops x hxu
              refine gQ ?_
              clear gQ gP
              have kq := kdn k (List.mem_append_right _ k1)
              rw [k2] at kq
              have lx9 : ∀ {b : Addr} {vs : List Value} {c : Nat}, (b, listOf vs.toArray c) ∈ news → b ≠ x.d := fun {b vs c} hb' => ne_mk1 NB (.tail _ (sb11 _ (.tail _ (sbL hb')))) (.tail _ b2) (by rw [mk_list, mk_up]; decide)
              refine ⟨Ne.symm kq.1, Ne.symm kq.2.2.1, lx9 a1, lx9 a2, lx9 hpln, fun k' hk' e => ?_⟩
              have := W.dd
              rw [List.nodup_append] at this
              exact this.2.2 _ (List.mem_map_of_mem hk') _ (List.mem_map_of_mem k1) (by rw [k2, e])
          have C0m := C0n.mono sb17
          have hvl := W.h0.fi.vl
          have hul0 := ups_len W.h0.fi.sorted W.h0.fi.rng
          have hul0' : ups0.length ≤ 100 := by clear ln; exact Nat.le_trans (Nat.le_trans hul0 hvl) (by decide)
          have hvl' : vals.length ≤ 1000 := Nat.le_trans hvl (by decide)
          have cnot : ∀ b, (∀ q ∈ news, q.1 ≠ b) → b < rw1 → b ∉ ou1 :: rw1 :: done.map (·.d) := fun b hb hlt => by
            simp only [List.mem_cons, not_or]
            refine ⟨Ne.symm (hb _ ho1), Nat.ne_of_lt hlt, fun hm => ?_⟩
            refine hide fun gP gQ => ?_
            obtain ⟨x, hx, e⟩ := List.mem_map.mp hm
            obtain ⟨_, τ, c, h3⟩ := W.h1.fi.ops x (by rw [J2.eq]; exact List.mem_append_left _ hx)
            refine gQ ?_
            clear gQ gP
            exact hb _ h3 e
          have mc2n : (L' + 1 + 1, o2) ∈ N17 := sb17 _ (J2.st.keep _ (.tail _ mc2) (cnot _ (fun p hp => (q p hp).1) (J.st.lt lt10 _ m2')))
          have mc1n : (L' + 1, o1) ∈ N17 := sb17 _ (J2.st.keep _ (.tail _ mc1) (cnot _ (fun p hp => (q p hp).2) (J.st.lt lt10 _ m1')))
          k_steps
          refine go (takeS_spec B' F17 X' N17n T' rfl (by omega) (by omega) C0m.gr C0m.stk C0m.li C0m.ops W.h0.nd W.h0.ne hul0' hvl' W.h0.fi.rng fun l18 N18 k18 h18 tk18 F18 N18n S18 ml18 fl18 op18 sh18 => ?_)
          have T18 := C0m.took N17n S18 W.h0.fi.sorted W.h0.nd W.h0.ne (fun x hx => by
            refine hide fun gP gQ => ?_
            obtain ⟨k, k1, _, _, _, k2⟩ := W.h0.fi.r1 x hx
            refine gQ ?_
            clear gQ gP
            rw [← k2]; exact Ne.symm (kdn k (List.mem_append_left _ k1)).2.2.1) sh18
          have ln2 := ln ()
          obtain ⟨_, ho0⟩ := W.h0.fi.li
          have x0n : ∀ x ∈ ups0, ∃ k ∈ kx0, k.d = x.d := fun x hx => let ⟨k, k1, _, _, _, k2⟩ := W.h0.fi.r1 x hx; ⟨k, k1, k2⟩
          have gr1 : GrAt w.params N18 g1 dg1 st1 ou1 := by
            obtain ⟨a1, τ, c, a2⟩ := grR
            refine ⟨T18.inst (sb17 _ a1), τ, c, T18.any (sb17 _ a2) (by obtain ⟨_, h1⟩ := C0m.li; exact ne_mk1 N17n (sb17 _ a2) h1 (by rw [mk_gr, mk_list]; decide)) fun x hx => ?_⟩
            obtain ⟨k, k1, k2⟩ := x0n x hx
            rw [← k2]; exact Ne.symm (kdn k (List.mem_append_left _ k1)).2.1
          have st1b : LiAt N18 st1 vals := let ⟨c, h1⟩ := stR; ⟨c, T18.lst (sb17 _ h1) ln2.2.1.2.1⟩
          have ou1b : LiAt N18 ou1 (refs rest) := let ⟨c, h1⟩ := J2.opn; ⟨c, T18.lst (sb17 _ h1) (Ne.symm ln2.2.2.2)⟩
          have up1b : ∀ x ∈ ups1, ∀ {th v : Value} {ix : Int}, UpAt w.params n₁ x.u x.d th ix v → UpAt w.params N18 x.u x.d th ix v := fun x hx {th v ix} ⟨a1, τ, c, a2⟩ => by
            refine ⟨T18.inst (sb17 _ a1), τ, c, T18.any (sb17 _ a2) (by obtain ⟨_, h1⟩ := C0m.li; exact ne_mk1 N17n (sb17 _ a2) h1 (by rw [mk_up, mk_list]; decide)) fun y hy e => ?_⟩
            refine hide fun gP gQ => ?_
            obtain ⟨k, k1, k2⟩ := x0n y hy
            obtain ⟨k', k1', k2'⟩ := dup1 x hx
            refine gQ ?_
            clear gQ gP
            have := W.dd
            rw [List.nodup_append] at this
            exact this.2.2 _ (List.mem_map_of_mem k1) _ (List.mem_map_of_mem k1') (by rw [k2, k2', e])
          have op1b : Ops w.params N18 g1 rest := fun x hx => up1b x (by rw [J2.eq]; exact List.mem_append_right _ hx) (opR x hx)
          have cnot0 : ∀ b, (∀ q ∈ news, q.1 ≠ b) → b ≠ ou0 ∧ ∀ x ∈ ups0, b ≠ x.d := fun b hb => by
            refine ⟨Ne.symm (hb _ ho0), fun x hx e => ?_⟩
            obtain ⟨_, τ, c, h3⟩ := W.h0.fi.ops x hx
            exact hb _ h3 e.symm
          have mc2p : (L' + 1 + 1, o2) ∈ N18 := T18.any mc2n (cnot0 _ fun p hp => (q p hp).1).1 (cnot0 _ fun p hp => (q p hp).1).2
          have mc1p : (L' + 1, o1) ∈ N18 := T18.any mc1n (cnot0 _ fun p hp => (q p hp).2).1 (cnot0 _ fun p hp => (q p hp).2).2
          have gl0 : gl ≠ ou0 := by intro e; apply hglo; rw [e]; simp
          have mgl4 : (gl, listOf [Value.ref g0, Value.ref g1].toArray ng) ∈ N18 := T18.lst mgl3 gl0
          have mD11c : (D11, listOf (ls.map Value.ref).toArray (ls.map Value.ref).length) ∈ N18 := T18.lst mD11b D11ou0
          have ou0rw : ou0 < rw1 := rwn _ ho0
          have nm3 : NamesAre N18 ls (es.map (·.ka)) := nm2.via fun l hl {vs c} hx => T18.lst hx (Nat.ne_of_gt (Nat.lt_trans ou0rw (hlsl l hl)))
          have ke3 : ∀ e ∈ es, KeyIn prog w N18 e.key e.ka := fun e he => T18.key _ _ (ke2 e he)
          clear F17 N17n
          refine hide fun gP gQ => ?_
          obtain ⟨okn0, TK0⟩ := T18.kt
          have tw0 := tw_mem (level := level) W.h0.fi.sorted
          obtain ⟨us0, v1, v2, v3⟩ := entries_of (tms := tms) (kx := kx0) (done := ups0.takeWhile fun x => decide (level ≤ x.ix)) (fun x hx => W.h0.fi.r1 x ((tw0 x).mp hx).1)
          refine gQ ?_
          clear gQ gP
          have us0n : us0.length ≤ 1000 := by
            have h1 : us0.length = (ups0.takeWhile fun x => decide (level ≤ x.ix)).length := by simpa using congrArg List.length v3
            have h2 := (List.takeWhile_sublist (fun x : Up => decide (level ≤ x.ix)) (l := ups0)).length_le
            omega
          rw [← v1] at ml18
          k_steps
          refine go (names_spec (us := us0) B' F18 X' N18n T' rfl (by omega) (by omega) TK0 ml18 v2 us0n W.h0.fi.kl T18.ins W.h0.fi.r2 fun D19 ls19 c19 N19 h19 tk19 F19 N19n sb19 mD19 nm19 => ?_)
          clear F18 N18n
          have mc2r : (L' + 1 + 1, o2) ∈ N19 := sb19 _ mc2p
          have mc1r : (L' + 1, o1) ∈ N19 := sb19 _ mc1p
          have mgl5 := sb19 _ mgl4
          have mD11d := sb19 _ mD11c
          k_steps
          have dat11r := datF N19 (nm3.mono sb19) fun e he => (ke3 e he).mono fun _ h => sb19 _ h
          have esp0 : es.map (·.p) = (ups0.takeWhile fun x => decide (level ≤ x.ix)).map (·.ix) := W.h0.gone_eq pm7 pw7
          have usl0 : us0.length = done.length := by
            have h1 : us0.length = (ups0.takeWhile fun x => decide (level ≤ x.ix)).length := by simpa using congrArg List.length v3
            have h2 := congrArg List.length esp0
            rw [List.length_map, List.length_map] at h2
            omega
          have v3' : us0.map (·.key) = done.map (fun x => [x.ix, tms x.ix]) := by
            rw [v3]
            have e1 : (ups0.takeWhile fun x => decide (level ≤ x.ix)).map (fun x => [x.ix, tms x.ix]) = (es.map (·.p)).map fun p => [p, tms p] := by rw [esp0, List.map_map]; rfl
            have e2 : done.map (fun x => [x.ix, tms x.ix]) = (es.map (·.p)).map fun p => [p, tms p] := by rw [esp, List.map_map]; rfl
            rw [e1, e2]
          have dat19 : LRs g' L' N19 (ls19.map Value.ref) ((done.map fun x => (x.ix, tms x.ix)).map fun k => .list [.tuple [.int k.1, .int k.2]]) := by
            refine nm19.data (prog := prog) (w := w) (by rw [List.length_map, List.length_map, usl0]) fun i a k h1 h2 => ?_
            rw [List.getElem?_map] at h1 h2
            refine hide fun gP gQ => ?_
            obtain ⟨e, e1, rfl⟩ := Option.map_eq_some_iff.mp h1
            obtain ⟨x, x1, rfl⟩ := Option.map_eq_some_iff.mp h2
            refine gQ ?_
            clear gQ gP
            have h3 := congrArg (fun l : List (List Int) => l[i]?) v3'
            simp only [List.getElem?_map, e1, x1, Option.map_some, Option.some.injEq] at h3
            have : KeyIn prog w N19 e.key e.ka := (TK0.keys _ (List.mem_map_of_mem (v2 e (List.mem_of_getElem? e1)))).mono fun _ h => sb19 _ h
            rw [h3] at this
            exact this
          refine go (ne_LR N19n (.list mD19 dat19) (.list mD11d dat11r) shaped_names (units64 (by omega)) ?_)
          k_steps
          refine go (comp_E (by assumption) (by with_unfolding_all rfl) (by decide) (by rfl) (by decide) (by rfl) ?_)
          k_steps
          have dw0 := fun x hx => ((dw_mem (level := level) W.h0.fi.sorted) x).mp hx
          have nl5 : ∀ n5 : Led, Step [ou0, ou1] N19 n5 → ∀ {b : Addr} {ob : Obj}, (b, ob) ∈ N19 → (mk ob).1 ≠ 1 → (b, ob) ∈ n5 := fun n5 S {b ob} hb hm => S.keep _ hb (by
            simp only [List.mem_cons, List.not_mem_nil, or_false, not_or]
            obtain ⟨_, h1⟩ := op18
            obtain ⟨_, h2⟩ := ou1b
            exact ⟨ne_mk1 N19n hb (sb19 _ h1) (by rw [mk_list]; exact hm), ne_mk1 N19n hb (sb19 _ h2) (by rw [mk_list]; exact hm)⟩)
          have li5 : ∀ n5 : Led, Step [ou0, ou1] N19 n5 → ∀ {b : Addr} {vs : List Value}, LiAt N18 b vs → b ≠ ou0 → b ≠ ou1 → LiAt n5 b vs := fun n5 S {b vs} ⟨c, h1⟩ n1 n2 => ⟨c, S.keep _ (sb19 _ h1) (by simp only [List.mem_cons, List.not_mem_nil, or_false, not_or]; exact ⟨n1, n2⟩)⟩
          have gr5 : ∀ n5 : Led, Step [ou0, ou1] N19 n5 → ∀ {g dg st ou : Addr}, GrAt w.params N18 g dg st ou → GrAt w.params n5 g dg st ou := fun n5 S {g dg st ou} ⟨a1, τ, c, a2⟩ => ⟨nl5 n5 S (sb19 _ a1) (by decide : (3 : Nat) ≠ 1), τ, c, nl5 n5 S (sb19 _ a2) (by decide : (2 : Nat) ≠ 1)⟩
          have up5 : ∀ n5 : Led, Step [ou0, ou1] N19 n5 → ∀ {u d : Addr} {th v : Value} {ix : Int}, UpAt w.params N18 u d th ix v → UpAt w.params n5 u d th ix v := fun n5 S {u d th v ix} ⟨a1, τ, c, a2⟩ => ⟨nl5 n5 S (sb19 _ a1) (by decide : (3 : Nat) ≠ 1), τ, c, nl5 n5 S (sb19 _ a2) (by decide : (2 : Nat) ≠ 1)⟩
          have ce5 : ∀ n5 : Led, Step [ou0, ou1] N19 n5 → (L' + 1 + 1, o2) ∈ n5 := fun n5 S => S.keep _ mc2r (by
            simp only [List.mem_cons, List.not_mem_nil, or_false, not_or]
            exact ⟨Ne.symm (q _ ho0).1, Ne.symm (q _ ho1).1⟩)
          have lnd := ln2
          have gl_ou0 : gl ≠ ou0 := gl0
          have gl_ou1 : gl ≠ ou1 := glo
          have hrl9 : rest.length ≤ 100 := by
            have h2 := congrArg List.length J2.eq
            rw [List.length_append] at h2
            have h3 := ups_len W.h1.fi.sorted W.h1.fi.rng
            clear ln lnd ln2
            omega
          refine go (comp_list (l := gl) (n := ng) (vs := [Value.ref g0, Value.ref g1]) (fun j ys n => Step [ou0, ou1] N19 n ∧ LiAt n ou0 (refs (ups0.dropWhile fun x => decide (level ≤ x.ix))) ∧ LiAt n ou1 (refs rest) ∧ ∃ ls : List Addr, ys = ls.map Value.ref ∧ ls.length = j ∧ ∀ l ∈ ls, l ≠ ou0 ∧ l ≠ ou1 ∧ ∃ c, (l, listOf #[] c) ∈ n) rfl F19 N19n mgl5 (Nat.le_of_ble_eq_true rfl)
            ⟨Step.refl, op18.mono fun _ h => sb19 _ h, ou1b.mono fun _ h => sb19 _ h, [], rfl, rfl, fun _ h => (nomatch h)⟩ ?_ ?_)
          · clear F19 N19n
            rintro s5 j v ys n5 I5 oI5 C5 oC5 D5 mm5 h5 tk5 E5 hj hv5 ⟨S5, a5, b5, ls5, rfl, hl5, hls5⟩ hs5 hC5 hx5 F5 N5 off5 ne5
            have mc5 : (L' + 1 + 1, o2) ∈ (I5, oI5) :: (C5, oC5) :: (D5, LCg.lst (ls5.map Value.ref)) :: n5 := .tail _ (.tail _ (.tail _ (ce5 n5 S5)))
            have hm5b : (gl, listOf [Value.ref g0, Value.ref g1].toArray ng) ∈ n5 := S5.keep _ mgl5 (by simp only [List.mem_cons, List.not_mem_nil, or_false, not_or]; exact ⟨gl_ou0, gl_ou1⟩)
            obtain ⟨c0a, m0a⟩ := id a5
            obtain ⟨c1a, m1a⟩ := id b5
            have sub5 : ∀ p ∈ n5, p ∈ (I5, oI5) :: (C5, oC5) :: (D5, LCg.lst (ls5.map Value.ref)) :: n5 := fun p hp => .tail _ (.tail _ (.tail _ hp))
            have off6 : ∀ p ∈ n5, p.1 ≠ I5 ∧ p.1 ≠ C5 ∧ p.1 ≠ D5 := off5
            rcases j with _ | _ | j
            · obtain rfl : v = Value.ref g0 := by simpa using hv5.symm
              k_steps
              refine go (takeN_spec (ups := ups0.dropWhile fun x => decide (level ≤ x.ix)) B' F5 X' N5 T' rfl (by omega) (by omega) ((gr5 n5 S5 T18.gr).mono (fun _ h => sub5 _ h) fun _ h => sub5 _ h) ((li5 n5 S5 T18.stk W.h0.ne (by exact lnd.1.2.2.2)).mono fun _ h => sub5 _ h) (a5.mono fun _ h => sub5 _ h)
                (fun x hx => (up5 n5 S5 (T18.ops x hx)).mono (fun _ h => sub5 _ h) fun _ h => sub5 _ h) (((List.dropWhile_sublist _).map _).nodup W.h0.nd) W.h0.ne (Nat.le_trans (List.dropWhile_sublist _).length_le hul0') hvl' (fun x hx => W.h0.fi.rng x (dw0 x hx).1) (fun x hx => (dw0 x hx).2) fun l25 N25 k25 h25 tk25 F25 N25n S25 ml25 fl25 op25 => ?_)
              clear F5 N5
              k_steps
              refine go (cturn_step F25 N25n S25 off6 (by simpa using Ne.symm (off6 _ m0a).1) (by simpa using Ne.symm (off6 _ m0a).2.1) (by simpa using Ne.symm (off6 _ m0a).2.2) (fun p hp => by rw [List.mem_singleton.mp hp]; exact hm5b) (fun p hp => by rw [List.mem_singleton.mp hp]; simpa using gl_ou0) fun S26 => ?_)
              have up26 : ∀ {b : Addr} {ob : Obj}, (b, ob) ∈ N25 → b ≠ I5 → b ≠ C5 → b ≠ D5 → (b, ob) ∈ off I5 (off C5 (off D5 N25)) := fun h a1 a2 a3 => mem_off_of (mem_off_of (mem_off_of h a3) a2) a1
              refine ⟨S5.trans (S26.wider (by simp)), ?_, ?_, ls5 ++ [l25], by rw [List.map_append]; rfl, by rw [List.length_append, hl5]; rfl, fun l hl => ?_⟩
              · obtain ⟨c, h1⟩ := op25
                have o7 := off6 _ m0a
                exact ⟨c, up26 h1 o7.1 o7.2.1 o7.2.2⟩
              · exact ⟨c1a, S26.keep _ m1a (by simpa using Ne.symm lnd.2.2.2)⟩
              · rcases List.mem_append.mp hl with hl | hl
                · obtain ⟨z1, z2, c, z3⟩ := hls5 l hl
                  exact ⟨z1, z2, c, S26.keep _ z3 (by simpa using z1)⟩
                · rw [List.mem_singleton.mp hl]
                  exact ⟨Nat.ne_of_gt (fl25 _ (sub5 _ m0a)), Nat.ne_of_gt (fl25 _ (sub5 _ m1a)), k25, up26 ml25 (Nat.ne_of_gt (fl25 _ (.head _))) (Nat.ne_of_gt (fl25 _ (.tail _ (.head _)))) (Nat.ne_of_gt (fl25 _ (.tail _ (.tail _ (.head _)))))⟩
            · obtain rfl : v = Value.ref g1 := by simpa using hv5.symm
              k_steps
              refine go (takeN_spec (ups := rest) B' F5 X' N5 T' rfl (by omega) (by omega) ((gr5 n5 S5 gr1).mono (fun _ h => sub5 _ h) fun _ h => sub5 _ h) ((li5 n5 S5 st1b lnd.2.1.2.1 W.h1.ne).mono fun _ h => sub5 _ h) (b5.mono fun _ h => sub5 _ h)
                (fun x hx => (up5 n5 S5 (op1b x hx)).mono (fun _ h => sub5 _ h) fun _ h => sub5 _ h) (by have h9 := W.h1.nd; rw [J2.eq, List.map_append, List.nodup_append] at h9; exact h9.2.1) W.h1.ne hrl9 hvl' (fun x hx => W.h1.fi.rng x (by rw [J2.eq]; exact List.mem_append_right _ hx)) (fun x hx => hlast x hx) fun l25 N25 k25 h25 tk25 F25 N25n S25 ml25 fl25 op25 => ?_)
              clear F5 N5
              k_steps
              refine go (cturn_step F25 N25n S25 off6 (by simpa using Ne.symm (off6 _ m1a).1) (by simpa using Ne.symm (off6 _ m1a).2.1) (by simpa using Ne.symm (off6 _ m1a).2.2) (fun p hp => by rw [List.mem_singleton.mp hp]; exact hm5b) (fun p hp => by rw [List.mem_singleton.mp hp]; simpa using gl_ou1) fun S26 => ?_)
              have up26 : ∀ {b : Addr} {ob : Obj}, (b, ob) ∈ N25 → b ≠ I5 → b ≠ C5 → b ≠ D5 → (b, ob) ∈ off I5 (off C5 (off D5 N25)) := fun h a1 a2 a3 => mem_off_of (mem_off_of (mem_off_of h a3) a2) a1
              refine ⟨S5.trans (S26.wider (by simp)), ?_, ?_, ls5 ++ [l25], by rw [List.map_append]; rfl, by rw [List.length_append, hl5]; rfl, fun l hl => ?_⟩
              · exact ⟨c0a, S26.keep _ m0a (by simpa using lnd.2.2.2)⟩
              · obtain ⟨c, h1⟩ := op25
                have o7 := off6 _ m1a
                exact ⟨c, up26 h1 o7.1 o7.2.1 o7.2.2⟩
              · rcases List.mem_append.mp hl with hl | hl
                · obtain ⟨z1, z2, c, z3⟩ := hls5 l hl
                  exact ⟨z1, z2, c, S26.keep _ z3 (by simpa using z2)⟩
                · rw [List.mem_singleton.mp hl]
                  exact ⟨Nat.ne_of_gt (fl25 _ (sub5 _ m0a)), Nat.ne_of_gt (fl25 _ (sub5 _ m1a)), k25, up26 ml25 (Nat.ne_of_gt (fl25 _ (.head _))) (Nat.ne_of_gt (fl25 _ (.tail _ (.head _)))) (Nat.ne_of_gt (fl25 _ (.tail _ (.tail _ (.head _)))))⟩
            · exact absurd hv5 (by simp)
          · rintro h24 ys n24 ⟨S24, a24, b24, ls24, rfl, hl24, hls24⟩ hm24 D24 h25 tk25 F25 N25 off25
            clear F19 N19n
            k_steps
            rename Fr g' L' _ _ => F26
            rename News g' L' _ _ => N26
            obtain ⟨la1, la2, rfl⟩ : ∃ x y, ls24 = [x, y] := by
              match ls24, hl24 with
              | [x, y], _ => exact ⟨x, y, rfl⟩
            refine hide fun gP gQ => ?_
            obtain ⟨_, _, c1z, z1⟩ := hls24 la1 (.head _)
            obtain ⟨_, _, c2z, z2⟩ := hls24 la2 (.tail _ (.head _))
            refine gQ ?_
            clear gQ gP
            refine go (eq_LR N26 (d := .list [.list [], .list []]) (.list (vs := [Value.ref la1, Value.ref la2]) (n := 2) (.tail _ (.tail _ (.tail _ (.head _)))) (.cons (.list (vs := []) (.tail _ (.tail _ (.tail _ (.tail _ z1)))) .nil) (.cons (.list (vs := []) (.tail _ (.tail _ (.tail _ (.tail _ z2)))) .nil) .nil)))
              (.list (vs := [Value.ref _, Value.ref _]) (.head _) (.cons (.list (vs := []) (.tail _ (.tail _ (.head _))) .nil) (.cons (.list (vs := []) (.tail _ (.head _)) .nil) .nil))) (by decide) (units64 (by omega)) ?_)
            have dq := J2.done_eq rfl
            have esp1 : es.map (·.p) = (ups1.takeWhile fun x => decide (level ≤ x.ix)).map (·.ix) := W.h1.gone_eq pm7 pw7
            have tw1 := tw_mem (level := level) W.h1.fi.sorted
            have ledg : ∀ {b : Addr} {ob : Obj}, (b, ob) ∈ n11 → b < rw1 → b ≠ ou0 → b ≠ ou1 → (∀ x ∈ ups0, b ≠ x.d) → (∀ x ∈ ups1, b ≠ x.d) → (b, ob) ∈ n24 := fun {b ob} hb n1 n2 n3 n4 n5 => by
              have h1 := sb17 _ (J2.st.keep _ (.tail _ hb) (by
                simp only [List.mem_cons, not_or]
                refine ⟨n3, Nat.ne_of_lt n1, fun hm => ?_⟩
                obtain ⟨x, hx, e⟩ := List.mem_map.mp hm
                exact n5 x (by rw [J2.eq]; exact List.mem_append_left _ hx) e.symm))
              exact S24.keep _ (sb19 _ (T18.any h1 n2 n4)) (by simp only [List.mem_cons, List.not_mem_nil, or_false, not_or]; exact ⟨n2, n3⟩)
            have d0n : ∀ {b : Addr} {ob : Obj}, (b, ob) ∈ n11 → (mk ob).1 = 1 → ∀ x ∈ ups0, b ≠ x.d := fun {b ob} hb hm x hx => by
              obtain ⟨_, τ, c, h3⟩ := C0.ops x hx
              exact ne_mk1 (sub NBh.h fun p hp => .tail _ hp) hb h3 (by rw [hm, mk_up]; decide)
            have d1n : ∀ {b : Addr} {ob : Obj}, (b, ob) ∈ n11 → (mk ob).1 = 1 → ∀ x ∈ ups1, b ≠ x.d := fun {b ob} hb hm x hx => by
              obtain ⟨_, τ, c, h3⟩ := C1.ops x hx
              exact ne_mk1 (sub NBh.h fun p hp => .tail _ hp) hb h3 (by rw [hm, mk_up]; decide)
            have dd0 : ∀ {b : Addr} {ob : Obj}, (b, ob) ∈ n11 → (mk ob).1 = 2 → b ≠ ou0 ∧ b ≠ ou1 := fun {b ob} hb hm => by
              obtain ⟨_, h1⟩ := C0.li
              obtain ⟨_, h2⟩ := C1.li
              have nb : News g' _ _ n11 := sub NBh.h fun p hp => .tail _ hp
              exact ⟨ne_mk1 nb hb h1 (by rw [hm, mk_list]; decide), ne_mk1 nb hb h2 (by rw [hm, mk_list]; decide)⟩
            have kx0d : ∀ x ∈ ups0, x.d ≠ lf ∧ x.d ≠ tm := fun x hx => by
              obtain ⟨k, k1, k2⟩ := x0n x hx
              have := kdn k (List.mem_append_left _ k1)
              rw [k2] at this
              exact this.2.2.2.2
            have kx1d : ∀ x ∈ ups1, x.d ≠ lf ∧ x.d ≠ tm := fun x hx => by
              obtain ⟨k, k1, k2⟩ := dup1 x hx
              have := kdn k (List.mem_append_right _ k1)
              rw [k2] at this
              exact this.2.2.2.2
            have Wc := W.closed (N' := n24) (S := es.map (·.p)) (la := la) (nt' := nt + es.length) (level := level) (sub F11h.h sb8) (fun p => by
                rw [esp0]
                constructor
                · intro h
                  refine hide fun gP gQ => ?_
                  obtain ⟨x, hx, e⟩ := List.mem_map.mp h
                  obtain ⟨x1, x2⟩ := (tw0 x).mp hx
                  refine gQ ?_
                  clear gQ gP
                  exact ⟨x, x1, x2, e⟩
                · rintro ⟨x, x1, x2, e⟩
                  exact List.mem_map.mpr ⟨x, (tw0 x).mpr ⟨x1, x2⟩, e⟩) (fun p => by
                rw [esp1]
                constructor
                · intro h
                  refine hide fun gP gQ => ?_
                  obtain ⟨x, hx, e⟩ := List.mem_map.mp h
                  obtain ⟨x1, x2⟩ := (tw1 x).mp hx
                  refine gQ ?_
                  clear gQ gP
                  exact ⟨x, x1, x2, e⟩
                · rintro ⟨x, x1, x2, e⟩
                  exact List.mem_map.mpr ⟨x, (tw1 x).mpr ⟨x1, x2⟩, e⟩)
            have esn : es.length ≤ 64 := by have h1 := pm7.length_eq; have h2 := W.h0.gone_len (level := level); clear ln lnd ln2; omega
            have Kc : Keep (lf :: tm :: ou0 :: ou1 :: (twD ups0 level ++ twD ups1 level)) news n24 := fun z hz hn => by
              simp only [List.mem_cons, List.mem_append, not_or] at hn
              refine hide fun gP gQ => ?_
              obtain ⟨n1, n2, n3, n4, n5, n6⟩ := hn
              refine gQ ?_
              clear gQ gP
              have a1 := J.st.keep _ (sb8 z hz) (by simp only [List.mem_cons, List.not_mem_nil, or_false, not_or]; exact ⟨n1, n2⟩)
              have a2 := J2.st.keep _ (.tail _ (sb11 _ (.tail _ a1))) (by
                simp only [List.mem_cons, not_or]
                refine ⟨n4, Nat.ne_of_lt (rwn _ hz), ?_⟩
                rw [← dq.1]
                exact n6)
              have a3 := S18.keep _ (sb17 _ a2) (by
                simp only [List.mem_cons, not_or]
                exact ⟨n3, n5⟩)
              exact S24.keep _ (sb19 _ a3) (by simp only [List.mem_cons, List.not_mem_nil, or_false, not_or]; exact ⟨n3, n4⟩)
            have Wd := Wc Kc a24 (by rw [dq.2]; exact b24) (fun x hx => let ⟨v, h1, h2⟩ := sh18 x hx; ⟨v, h1, up5 n24 S24 h2⟩)
              (fun x hx => by
                obtain ⟨v, h1, h2⟩ := J2.shut x (by rw [← dq.1]; exact hx)
                exact ⟨v, h1, up5 n24 S24 (up1b x ((tw1 x).mp hx).1 h2)⟩)
              (by
                obtain ⟨o, h1, h2⟩ := J.lt
                have h3 := sb11 _ (.tail _ h1)
                have h4 := dd0 h3 h2.mk1
                exact ⟨o, ledg h3 (lt10 _ h1) h4.1 h4.2 (fun x hx => Ne.symm (kx0d x hx).1) (fun x hx => Ne.symm (kx1d x hx).1), h2⟩)
              (by
                obtain ⟨o, h1, h2⟩ := J.tm'
                have h3 := sb11 _ (.tail _ h1)
                have h4 := dd0 h3 h2.mk1
                exact ⟨o, ledg h3 (lt10 _ h1) h4.1 h4.2 (fun x hx => Ne.symm (kx0d x hx).2) (fun x hx => Ne.symm (kx1d x hx).2), by simpa using h2⟩)
              (fun p hp => by
                refine hide fun gP gQ => ?_
                obtain ⟨v, c, h1, h2, h3⟩ := J.la' p hp
                refine gQ ?_
                clear gQ gP
                have h4 := sb11 _ (.tail _ h2)
                exact ⟨v, c, h1, ledg h4 (lt10 _ h2) (Nat.ne_of_gt (h3 _ (sb8 _ ho0))) (Nat.ne_of_gt (h3 _ (sb8 _ ho1))) (d0n h4 rfl) (d1n h4 rfl), fun z hz => h3 _ (sb8 z hz)⟩)
            clear Wc
            k_steps
            refine go (back F26 N26 fun F9 N9 => post n24 _ _ _ _ _ Wd (by omega) Kc F9 (sub N9 fun p hp => .tail _ (.tail _ (.tail _ (.tail _ hp)))))
end
end
section
section
variable {w : World} {tms : Int → Int} {g dg st ou kn lf pl : Addr} {vals vals' : List Value} {ns ns' : List Int} {N N' : Led} {ups : List Up} {kx : List Kn} {lx : List En} {h₀ h : Heap} {L : Addr} {fp : List Addr}
/-- what is no list stays where lists alone are changed -/
theorem keep_nl (n : News h₀ L h N) (K : Keep fp N N') (hf : ∀ b ∈ fp, ∃ vs c, (b, listOf vs c) ∈ N) {b : Addr} {ob : Obj} (hb : (b, ob) ∈ N) (hm : (mk ob).1 ≠ 1) : (b, ob) ∈ N' := K _ hb fun hx => by
  obtain ⟨vs, c, h1⟩ := hf _ hx
  exact ne_mk1 n hb h1 (by rw [mk_list]; exact hm) rfl
theorem keep_upAt (n : News h₀ L h N) (K : Keep fp N N') (hf : ∀ b ∈ fp, ∃ vs c, (b, listOf vs c) ∈ N) {P : Params} {u d : Addr} {th v : Value} {ix : Int} (x : UpAt P N u d th ix v) : UpAt P N' u d th ix v :=
  let ⟨a1, τ, c, a2⟩ := x; ⟨keep_nl n K hf a1 (by decide : (3 : Nat) ≠ 1), τ, c, keep_nl n K hf a2 (by decide : (2 : Nat) ≠ 1)⟩
theorem keep_inst (n : News h₀ L h N) (K : Keep fp N N') (hf : ∀ b ∈ fp, ∃ vs c, (b, listOf vs c) ∈ N) {u d : Addr} (x : InstIn N u d) : InstIn N' u d :=
  let ⟨a1, P, τ, th, ix, v, c, a2⟩ := x; ⟨keep_nl n K hf a1 (by decide : (3 : Nat) ≠ 1), P, τ, th, ix, v, c, keep_nl n K hf a2 (by decide : (2 : Nat) ≠ 1)⟩
theorem list_noTups (hf : ∀ b ∈ fp, ∃ vs c, (b, listOf vs c) ∈ N) : NoTup N fp := fun b hb => let ⟨_, _, h⟩ := hf b hb; ⟨_, h, list_noTup⟩
theorem keep_tab (n : News h₀ L h N) (K : Keep fp N N') (hf : ∀ b ∈ fp, ∃ vs c, (b, listOf vs c) ∈ N) {d : Addr} {o : Obj} {xs : TL} (T : TabAt prog w N d o xs) : TabAt prog w N' d o xs :=
  T.keep n K (list_noTups hf) fun hx => by
    obtain ⟨vs, c, h1⟩ := hf _ hx
    exact ne_mk1 n T.mem h1 (by rw [T.tab.mk1, mk_list]; decide) rfl
theorem HI.newrow (H : HI w tms g dg st ou kn lf pl vals ns N ups kx lx) (n : News h₀ L h N) (K : Keep fp N N') (hf : ∀ b ∈ fp, ∃ vs c, (b, listOf vs c) ∈ N) (hn : ∀ b ∈ fp, b ≠ ou ∧ ∀ e ∈ lx, e.la ≠ b)
    (hst : LiAt N' st vals') (hpl : LiAt N' pl vals') (iv : IntsAre vals' ns') (hl : vals'.length ≤ 60) (hr : ∀ x ∈ ups, x.ix < vals'.length) : HI w tms g dg st ou kn lf pl vals' ns' N' ups kx lx where
  fi := by
    have I := H.fi
    refine ⟨?_, ?_, fun x hx => keep_upAt n K hf (I.ops x hx), ?_, ?_, fun k hk => keep_inst n K hf (I.ins k hk), fun e he => ?_, I.sorted, fun x hx => ⟨(I.rng x hx).1, hr x hx⟩, hl, I.kl, I.ll, I.r1, I.r2, I.r3, I.a1, I.a2, I.a3, I.a4⟩
    · obtain ⟨a1, τ, c, a2⟩ := I.gr
      exact ⟨keep_nl n K hf a1 (by decide : (3 : Nat) ≠ 1), τ, c, keep_nl n K hf a2 (by decide : (2 : Nat) ≠ 1)⟩
    · obtain ⟨c, h1⟩ := I.li
      exact ⟨c, K _ h1 fun hx => (hn _ hx).1 rfl⟩
    · obtain ⟨o, T⟩ := I.kt
      exact ⟨o, keep_tab n K hf T⟩
    · obtain ⟨o, T⟩ := I.lt
      exact ⟨o, keep_tab n K hf T⟩
    · obtain ⟨c, h1⟩ := I.las e he
      exact ⟨c, K _ h1 fun hx => (hn _ hx).2 e he rfl⟩
  stk := hst
  pln := hpl
  iv := iv
  nd := H.nd
  ne := H.ne
  opn := H.opn
  ex := fun e he => let ⟨k, k1, k2, k3⟩ := H.ex e he; ⟨k, k1, k2, fun v hv => ⟨keep_upAt n K hf (k3 v hv).1, (k3 v hv).2⟩⟩
  all := H.all
  le := H.le
end
section
variable {w : World} {tms : Int → Int} {nt nt' : Nat} {g0 dg0 st0 ou0 kn0 g1 dg1 st1 ou1 kn1 lf pl tm : Addr} {vals vals' : List Value} {ns ns' : List Int} {N N' : Led} {ups0 ups1 ups0' ups1' : List Up} {kx0 kx1 : List Kn} {lx : List En} {h₀ h h1 h2 : Heap} {L : Addr}
theorem Two.mono (W : Two w tms nt g0 dg0 st0 ou0 kn0 g1 dg1 st1 ou1 kn1 lf pl tm vals ns N ups0 ups1 kx0 kx1 lx) (s : ∀ p ∈ N, p ∈ N') : Two w tms nt g0 dg0 st0 ou0 kn0 g1 dg1 st1 ou1 kn1 lf pl tm vals ns N' ups0 ups1 kx0 kx1 lx where
  h0 := W.h0.mono s
  h1 := W.h1.mono s
  tmo := let ⟨o, a, b⟩ := W.tmo; ⟨o, s _ a, b⟩
  tlo := W.tlo
  dd := W.dd
  tabs := W.tabs
  lsts := W.lsts
  kd := W.kd
  las := W.las
/-- the row is written, grown or cut -/
theorem Two.newrow (W : Two w tms nt g0 dg0 st0 ou0 kn0 g1 dg1 st1 ou1 kn1 lf pl tm vals ns N ups0 ups1 kx0 kx1 lx) (n : News h₀ L h N) (K : Keep [st0, st1, pl] N N')
    (a0 : LiAt N' st0 vals') (a1 : LiAt N' st1 vals') (a2 : LiAt N' pl vals') (iv : IntsAre vals' ns') (hl : vals'.length ≤ 60) (hr0 : ∀ x ∈ ups0, x.ix < vals'.length) (hr1 : ∀ x ∈ ups1, x.ix < vals'.length) :
    Two w tms nt g0 dg0 st0 ou0 kn0 g1 dg1 st1 ou1 kn1 lf pl tm vals' ns' N' ups0 ups1 kx0 kx1 lx := by
  obtain ⟨c0, b0⟩ := W.h0.stk
  obtain ⟨c1, b1⟩ := W.h1.stk
  obtain ⟨c2, b2⟩ := W.h0.pln
  have ls := nd5 W.lsts
  have las := fun e he => ni5 (W.las e he)
  have hf : ∀ b ∈ [st0, st1, pl], ∃ vs c, (b, listOf vs c) ∈ N := fun b hb => by
    simp only [List.mem_cons, List.not_mem_nil, or_false] at hb
    rcases hb with rfl | rfl | rfl
    · exact ⟨_, _, b0⟩
    · exact ⟨_, _, b1⟩
    · exact ⟨_, _, b2⟩
  refine ⟨W.h0.newrow n K hf (fun b hb => ?_) a0 a2 iv hl hr0, W.h1.newrow n K hf (fun b hb => ?_) a1 a2 iv hl hr1, ?_, W.tlo, W.dd, W.tabs, W.lsts, W.kd, W.las⟩
  · simp only [List.mem_cons, List.not_mem_nil, or_false] at hb
    rcases hb with rfl | rfl | rfl
    · exact ⟨ls.1.2.2.1, fun e he => (las e he).1⟩
    · exact ⟨ls.2.1.2.1, fun e he => (las e he).2.1⟩
    · exact ⟨ls.2.2.1.1, fun e he => (las e he).2.2.1⟩
  · simp only [List.mem_cons, List.not_mem_nil, or_false] at hb
    rcases hb with rfl | rfl | rfl
    · exact ⟨ls.1.2.2.2, fun e he => (las e he).1⟩
    · exact ⟨ls.2.1.2.2, fun e he => (las e he).2.1⟩
    · exact ⟨ls.2.2.1.2, fun e he => (las e he).2.2.1⟩
  · obtain ⟨o, t1, t2⟩ := W.tmo
    exact ⟨o, keep_nl n K hf t1 (by rw [t2.mk1]; decide), t2⟩
end
/-- an entry set to a new value -/
def setE (k : List Int) (l : Addr) (v : Value) (e : En) : En := if e.key = k then { e with la := l, c := some v } else e
theorem setE_key {k : List Int} {l : Addr} {v : Value} {e : En} : (setE k l v e).key = e.key ∧ (setE k l v e).ka = e.ka ∧ (setE k l v e).p = e.p ∧ (setE k l v e).t = e.t := by
  unfold setE; split <;> exact ⟨rfl, rfl, rfl, rfl⟩
theorem lfTab_set {k : List Int} {l ka : Addr} {v : Value} {lx : List En} (h : ∃ e ∈ lx, e.key = k) : storedH (lfTab lx) k ka (.ref l) = lfTab (lx.map (setE k l v)) := by
  have hat : ∃ p, atKey (lfTab lx) k = some p := by
    cases e : atKey (lfTab lx) k with
    | some p => exact ⟨p, rfl⟩
    | none =>
      exfalso
      obtain ⟨x, hx, rfl⟩ := h
      have h1 : (x.key, x.ka, Value.ref x.la) ∈ lfTab lx := List.mem_map_of_mem hx
      have := List.find?_eq_none.mp (Option.map_eq_none_iff.mp e) _ h1
      simp at this
  obtain ⟨p, hp⟩ := hat
  rw [storedH_old hp, lfTab, lfTab, List.map_map, List.map_map]
  refine List.map_congr_left fun x _ => ?_
  show putAt k (.ref l) (x.key, x.ka, Value.ref x.la) = ((setE k l v x).key, (setE k l v x).ka, Value.ref (setE k l v x).la)
  by_cases e : x.key = k
  · rw [putAt, if_pos e, setE, if_pos e]
  · rw [putAt, if_neg e, setE, if_neg e]
theorem kn_same {kx : List Kn} {k k' : Kn} (hn : ((knTab kx).map (·.1)).Nodup) (h1 : k ∈ kx) (h2 : k' ∈ kx) (e : k.key = k'.key) : k = k' := by
  obtain ⟨i, hi⟩ := List.mem_iff_getElem?.mp h1
  obtain ⟨j, hj⟩ := List.mem_iff_getElem?.mp h2
  have a1 : (knTab kx)[i]? = some (k'.key, k.ka, Value.ref k.u) := by rw [knTab, List.getElem?_map, hi, ← e]; rfl
  have a2 : (knTab kx)[j]? = some (k'.key, k'.ka, Value.ref k'.u) := by rw [knTab, List.getElem?_map, hj]; rfl
  have := idxH_unique hn a1 a2
  subst this
  rw [hi] at hj; exact Option.some.inj hj
theorem en_same {lx : List En} {e e' : En} (hn : ((lfTab lx).map (·.1)).Nodup) (h1 : e ∈ lx) (h2 : e' ∈ lx) (k : e.key = e'.key) : e = e' := by
  obtain ⟨i, hi⟩ := List.mem_iff_getElem?.mp h1
  obtain ⟨j, hj⟩ := List.mem_iff_getElem?.mp h2
  have a1 : (lfTab lx)[i]? = some (e'.key, e.ka, Value.ref e.la) := by rw [lfTab, List.getElem?_map, hi, ← k]; rfl
  have a2 : (lfTab lx)[j]? = some (e'.key, e'.ka, Value.ref e'.la) := by rw [lfTab, List.getElem?_map, hj]; rfl
  have := idxH_unique hn a1 a2
  subst this
  rw [hi] at hj; exact Option.some.inj hj
theorem nodup_at {α : Type} {f : α → Addr} {l : List α} {x y : α} (hn : (l.map f).Nodup) (hx : x ∈ l) (hy : y ∈ l) (e : f x = f y) : x = y := by
  obtain ⟨i, hi⟩ := List.mem_iff_getElem?.mp hx
  obtain ⟨j, hj⟩ := List.mem_iff_getElem?.mp hy
  have h1 : (l.map f)[i]? = some (f x) := by rw [List.getElem?_map, hi]; rfl
  have h2 : (l.map f)[j]? = some (f x) := by rw [List.getElem?_map, hj, e]; rfl
  have := (List.getElem?_inj (List.getElem?_eq_some_iff.mp h1).1 hn).mp (h1.trans h2.symm)
  subst this
  rw [hi] at hj; exact Option.some.inj hj
end
section
section
variable {w : World} {tms : Int → Int} {g dg st ou kn lf pl ou' kn' : Addr} {vals : List Value} {ns : List Int} {N N' : Led} {ups : List Up} {kx : List Kn} {lx lx' : List En} {h₀ h : Heap} {L : Addr} {fp : List Addr} {vlen : Nat}
theorem HI.shutset (H : HI w tms g dg st ou kn lf pl vals ns N ups kx lx) (n : News h₀ L h N) (K : Keep fp N N') {e0 : En} (he0 : e0 ∈ lx) (hc0 : e0.c ≠ none) {k0 : Kn} (hk0 : k0 ∈ kx) (hkk : k0.key = e0.key) (hm : ∀ b ∈ fp, Mut N b)
    (hn : ∀ b ∈ fp, dg ≠ b ∧ kn ≠ b ∧ st ≠ b ∧ pl ≠ b ∧ ou ≠ b ∧ (∀ k ∈ kx, k.d = b → k = k0) ∧ ∀ e ∈ lx, e.la ≠ b) {i : Int} {t : Tok} {l : Addr}
    (hup : UpAt w.params N' k0.u k0.d .none (-1) (.int i t)) (hlf : ∃ o, (lf, o) ∈ N' ∧ IsTab prog w o (lfTab (lx.map (setE e0.key l (.int i t))))) (hl : LiAt N' l [.int i t]) (hlou : l ≠ ou) :
    HI w tms g dg st ou kn lf pl vals ns N' ups kx (lx.map (setE e0.key l (.int i t))) := by
  have I := H.fi
  have mv : ∀ {b : Addr} {ob : Obj}, (b, ob) ∈ N → (∀ c ∈ fp, b ≠ c) → (b, ob) ∈ N' := fun hb h => K _ hb fun hx => h _ hx rfl
  have mi : ∀ {b C d : Addr}, (b, instObj C d) ∈ N → (b, instObj C d) ∈ N' := fun hb => mv hb fun c hc => (hm c hc).ne_inst n hb
  obtain ⟨okn, TK⟩ := I.kt
  obtain ⟨olf, TL⟩ := I.lt
  have t0 : e0.t ≠ tms e0.p := fun h => hc0 ((H.opn e0 he0).mpr h)
  have kpt : k0.p = e0.p ∧ k0.t = e0.t := by injection hkk with a b; injection b with b _; exact ⟨a, b⟩
  have dsame : ∀ k ∈ kx, k ≠ k0 → ∀ c ∈ fp, k.d ≠ c := fun k hk hne c hc e => hne ((hn c hc).2.2.2.2.2.1 k hk e)
  have opsK : ∀ x ∈ ups, UpAt w.params N' x.u x.d (.ref g) x.ix .none := fun x hx => by
    obtain ⟨a1, τ, c, a2⟩ := I.ops x hx
    obtain ⟨k, k1, kp, kt, ku, kd⟩ := I.r1 x hx
    refine ⟨mi a1, τ, c, mv a2 ?_⟩
    rw [← kd]
    refine dsame k k1 fun e => ?_
    rw [e] at kp kt
    exact t0 (by rw [← kpt.1, ← kpt.2, kt, kp])
  have insK : ∀ k ∈ kx, InstIn N' k.u k.d := fun k hk => by
    by_cases e : k = k0
    · rw [e]; exact hup.inst
    · obtain ⟨a1, P, τ, th, ix, v, c, a2⟩ := I.ins k hk
      exact ⟨mi a1, P, τ, th, ix, v, c, mv a2 (dsame k hk e)⟩
  obtain ⟨oo, ho1, ho2⟩ := hlf
  have sk : ∀ e, (setE e0.key l (.int i t) e).key = e.key ∧ (setE e0.key l (.int i t) e).ka = e.ka ∧ (setE e0.key l (.int i t) e).p = e.p ∧ (setE e0.key l (.int i t) e).t = e.t := fun e => setE_key
  have same0 : ∀ z ∈ lx, z.key = e0.key → z = e0 := fun z hz e => en_same TL.tab.nodup hz he0 e
  refine ⟨⟨?_, ?_, opsK, ⟨okn, TK.keep n K (Mut.noTup hm) fun hx => (hn _ hx).2.1 rfl⟩, ⟨oo, TL.lo, ho1, ho2, fun x hx => ?_⟩, insK, fun e he => ?_, I.sorted, I.rng, I.vl, I.kl, by rw [List.length_map]; exact I.ll, I.r1, I.r2, I.r3, I.a1, I.a2, I.a3, fun e he => ?_⟩, ?_, ?_, H.iv, H.nd, H.ne, fun e he => ?_, fun e he => ?_, fun k hk => ?_, fun e he => ?_⟩
  · obtain ⟨a1, τ, c, a2⟩ := I.gr
    exact ⟨mi a1, τ, c, mv a2 fun b hb => (hn b hb).1⟩
  · obtain ⟨c, a⟩ := I.li
    exact ⟨c, mv a fun b hb => (hn b hb).2.2.2.2.1⟩
  · obtain ⟨y, hy, rfl⟩ := List.mem_map.mp hx
    obtain ⟨z, hz, rfl⟩ := List.mem_map.mp hy
    show KeyIn prog w _ (setE _ _ _ z).key (setE _ _ _ z).ka
    rw [(sk z).1, (sk z).2.1]
    exact (TL.keys _ (List.mem_map_of_mem hz)).keep n K (Mut.noTup hm)
  · obtain ⟨z, hz, rfl⟩ := List.mem_map.mp he
    unfold setE
    split
    · exact hl
    · obtain ⟨c, h1⟩ := I.las z hz
      exact ⟨c, mv h1 fun b hb => (hn b hb).2.2.2.2.2.2 z hz⟩
  · obtain ⟨z, hz, rfl⟩ := List.mem_map.mp he
    unfold setE
    split
    · exact hlou
    · exact I.a4 z hz
  · obtain ⟨c, h1⟩ := H.stk
    exact ⟨c, mv h1 fun b hb => (hn b hb).2.2.1⟩
  · obtain ⟨c, h1⟩ := H.pln
    exact ⟨c, mv h1 fun b hb => (hn b hb).2.2.2.1⟩
  · obtain ⟨z, hz, rfl⟩ := List.mem_map.mp he
    rw [(sk z).2.2.1, (sk z).2.2.2]
    by_cases e : z.key = e0.key
    · have := same0 z hz e
      subst this
      have : (setE z.key l (.int i t) z).c = some (.int i t) := by unfold setE; rw [if_pos rfl]
      rw [this]
      constructor
      · intro h; cases h
      · intro h; exact absurd h t0
    · have : (setE e0.key l (.int i t) z).c = z.c := by unfold setE; rw [if_neg e]
      rw [this]
      exact H.opn z hz
  · obtain ⟨z, hz, rfl⟩ := List.mem_map.mp he
    by_cases e : z.key = e0.key
    · refine ⟨k0, hk0, by rw [(sk z).1, e, hkk], fun v hv => ?_⟩
      have : (setE e0.key l (.int i t) z).c = some (.int i t) := by unfold setE; rw [if_pos e]
      rw [this] at hv
      cases hv
      exact ⟨hup, i, t, rfl⟩
    · obtain ⟨k, k1, k2, k3⟩ := H.ex z hz
      refine ⟨k, k1, by rw [(sk z).1]; exact k2, fun v hv => ?_⟩
      have : (setE e0.key l (.int i t) z).c = z.c := by unfold setE; rw [if_neg e]
      rw [this] at hv
      obtain ⟨⟨a1, τ, c, a2⟩, hi⟩ := k3 v hv
      exact ⟨⟨mi a1, τ, c, mv a2 (dsame k k1 fun q => e (by rw [← k2, q, hkk]))⟩, hi⟩
  · obtain ⟨e, e1, e2⟩ := H.all k hk
    exact ⟨_, List.mem_map_of_mem e1, by rw [(sk e).1]; exact e2⟩
  · obtain ⟨z, hz, rfl⟩ := List.mem_map.mp he
    rw [(sk z).2.2.1, (sk z).2.2.2]
    exact H.le z hz
/-- a ground, while the other one is asked for variables -/
theorem FI.other (I : FI w tms g dg st ou kn lf vlen N ups kx lx) (n : News h₀ L h N) (K : Keep [ou', kn', lf] N N') (ho : ∃ vs c, (ou', listOf vs c) ∈ N) (hk : ∃ o, (kn', o) ∈ N ∧ (Mine.mk o).1 = 2) (n1 : ou ≠ ou') (n2 : kn ≠ kn') (n3 : dg ≠ kn') (n4 : ∀ k ∈ kx, k.d ≠ kn')
    (lt : ∃ o, TabAt prog w N' lf o (lfTab lx')) (las : ∀ e ∈ lx', LiAt N' e.la e.c.toList) (ll : lx'.length ≤ 1000) (a4 : ∀ e ∈ lx', e.la ≠ ou) : FI w tms g dg st ou kn lf vlen N' ups kx lx' := by
  obtain ⟨vs, c, ho⟩ := ho
  obtain ⟨o, hk, hk2⟩ := hk
  obtain ⟨ol, TL⟩ := I.lt
  obtain ⟨okn, TK⟩ := I.kt
  have hm : ∀ b ∈ [ou', kn', lf], Mut N b := fun b hb => by
    simp only [List.mem_cons, List.not_mem_nil, or_false] at hb
    rcases hb with rfl | rfl | rfl
    · exact Mut.list ho
    · exact ⟨o, hk, .inr hk2⟩
    · exact Mut.tab TL.mem TL.tab
  have mv : ∀ {b : Addr} {ob : Obj}, (b, ob) ∈ N → b ≠ ou' → b ≠ kn' → b ≠ lf → (b, ob) ∈ N' := fun hb h1 h2 h3 => K _ hb (by simp only [List.mem_cons, List.not_mem_nil, or_false, not_or]; exact ⟨h1, h2, h3⟩)
  have mi : ∀ {b C d : Addr}, (b, instObj C d) ∈ N → (b, instObj C d) ∈ N' := fun hb => K _ hb fun hx => (hm _ hx).ne_inst n hb rfl
  have dl : ∀ {b : Addr} {ob : Obj}, (b, ob) ∈ N → (Mine.mk ob).1 = 2 → b ≠ ou' := fun h1 h2 => ne_mk1 n h1 ho (by rw [h2, mk_list]; decide)
  refine ⟨?_, ?_, fun x hx => ?_, ⟨okn, TK.keep n K (Mut.noTup hm) ?_⟩, lt, fun k hk => ?_, las, I.sorted, I.rng, I.vl, I.kl, ll, I.r1, I.r2, I.r3, I.a1, I.a2, I.a3, a4⟩
  · obtain ⟨a1, τ, c', a2⟩ := I.gr
    exact ⟨mi a1, τ, c', mv a2 (dl a2 rfl) n3 I.a2.2⟩
  · obtain ⟨c', a⟩ := I.li
    exact ⟨c', mv a n1 (ne_mk1 n a hk (by rw [mk_list, hk2]; decide)) (ne_mk1 n a TL.mem (by rw [mk_list, TL.tab.mk1]; decide))⟩
  · obtain ⟨a1, τ, c', a2⟩ := I.ops x hx
    obtain ⟨k, k1, _, _, _, k2⟩ := I.r1 x hx
    exact ⟨mi a1, τ, c', mv a2 (dl a2 rfl) (k2 ▸ n4 k k1) (k2 ▸ (I.a3 k k1).2)⟩
  · simp only [List.mem_cons, List.not_mem_nil, or_false, not_or]
    exact ⟨dl TK.mem TK.tab.mk1, n2, I.a1⟩
  · obtain ⟨a1, P, τ, th, ix, v, c', a2⟩ := I.ins k hk
    exact ⟨mi a1, P, τ, th, ix, v, c', mv a2 (dl a2 rfl) (n4 k hk) (I.a3 k hk).2⟩
theorem up_index {P P' : Params} {τ τ' : UT} {th th' v v' : Value} {ix ix' : Int} {c c' : Nat} (e : dictOf (upEs P τ th ix v) c = dictOf (upEs P' τ' th' ix' v') c') : ix = ix' := by
  have h1 : Obj.data (dictOf (upEs P τ th ix v) c) = Obj.data (dictOf (upEs P' τ' th' ix' v') c') := congrArg Obj.data e
  have h2 : (upEs P τ th ix v) = (upEs P' τ' th' ix' v') := by
    have h3 : Data.dict (upEs P τ th ix v).toArray c = Data.dict (upEs P' τ' th' ix' v').toArray c' := h1
    injection h3 with h4 _
    exact congrArg Array.toList h4
  have h3 := congrArg (fun l : List DictEntry => (l[4]?).map (·.val)) h2
  have h4 : ix = ix' ∧ τ.d = τ'.d := by simpa [upEs] using h3
  exact h4.1
theorem FI.nd (I : FI w tms g dg st ou kn lf vlen N ups kx lx) (n : News h₀ L h N) : (ups.map (·.d)).Nodup := by
  rw [List.nodup_iff_pairwise_ne, List.pairwise_map]
  refine List.Pairwise.imp_of_mem (fun {x y} hx hy hlt e => ?_) I.sorted
  obtain ⟨_, τ, c, a⟩ := I.ops x hx
  obtain ⟨_, τ', c', b⟩ := I.ops y hy
  rw [e] at a
  have := up_index (news_one n a b)
  omega
end
end
section
section
variable {w : World} {tms : Int → Int} {nt : Nat} {g0 dg0 st0 ou0 kn0 g1 dg1 st1 ou1 kn1 lf pl tm : Addr} {vals : List Value} {ns : List Int} {N N' N1 N2 : Led} {ups0 ups1 ups0' ups1' : List Up} {kx0 kx1 ke0 ke1 : List Kn} {lx le0 le1 : List En} {h₀ h h1 h2 : Heap} {L l : Addr} {e0 : En} {k0 k1 : Kn} {i : Int} {t : Tok}
theorem Two.shutH (W : Two w tms nt g0 dg0 st0 ou0 kn0 g1 dg1 st1 ou1 kn1 lf pl tm vals ns N ups0 ups1 kx0 kx1 lx) (n : News h₀ L h N) (K : Keep [k0.d, k1.d, lf] N N') (he0 : e0 ∈ lx) (hc0 : e0.c ≠ none) (hk0 : k0 ∈ kx0) (hkk0 : k0.key = e0.key) (hk1 : k1 ∈ kx1)
    (u0 : UpAt w.params N' k0.u k0.d .none (-1) (.int i t)) (hlf : ∃ o, (lf, o) ∈ N' ∧ IsTab prog w o (lfTab (lx.map (setE e0.key l (.int i t))))) (hl : LiAt N' l [.int i t]) (hlou : l ≠ ou0) :
    HI w tms g0 dg0 st0 ou0 kn0 lf pl vals ns N' ups0 kx0 (lx.map (setE e0.key l (.int i t))) := by
  obtain ⟨olf, TL⟩ := W.h0.fi.lt
  obtain ⟨okn, TK⟩ := W.h0.fi.kt
  obtain ⟨c0, ho0⟩ := W.h0.fi.li
  obtain ⟨cst, hst⟩ := W.h0.stk
  obtain ⟨cpl, hpl⟩ := W.h0.pln
  obtain ⟨hg1, τg, ng, hg2⟩ := W.h0.fi.gr
  have tb := nd6 W.tabs
  have kd0 : ∀ k ∈ kx0, k.d ≠ dg0 ∧ k.d ≠ dg1 ∧ k.d ≠ kn0 ∧ k.d ≠ kn1 ∧ k.d ≠ lf ∧ k.d ≠ tm := fun k hk => ni6 (W.kd k (List.mem_append_left _ hk))
  have kd1 : ∀ k ∈ kx1, k.d ≠ dg0 ∧ k.d ≠ dg1 ∧ k.d ≠ kn0 ∧ k.d ≠ kn1 ∧ k.d ≠ lf ∧ k.d ≠ tm := fun k hk => ni6 (W.kd k (List.mem_append_right _ hk))
  have lat : ∀ e ∈ lx, ∃ c, (e.la, listOf e.c.toList.toArray c) ∈ N := fun e he => W.h0.fi.las e he
  have ldict : ∀ {b b' : Addr} {vs : Array Value} {c : Nat} {o : Obj}, (b, listOf vs c) ∈ N → (b', o) ∈ N → (Mine.mk o).1 = 2 → b ≠ b' := fun h1 h2 h3 => ne_mk1 n h1 h2 (by rw [mk_list, h3]; decide)
  obtain ⟨_, _, _, _, _, _, _, b0⟩ := W.h0.fi.ins k0 hk0
  obtain ⟨_, _, _, _, _, _, _, b1⟩ := W.h1.fi.ins k1 hk1
  refine W.h0.shutset n K he0 hc0 hk0 hkk0 (fun b hb => ?_) (fun b hb => ?_) u0 hlf hl hlou
  · simp only [List.mem_cons, List.not_mem_nil, or_false] at hb
    rcases hb with rfl | rfl | rfl
    · exact Mut.up b0
    · exact Mut.up b1
    · exact Mut.tab TL.mem TL.tab
  · simp only [List.mem_cons, List.not_mem_nil, or_false] at hb
    rcases hb with rfl | rfl | rfl
    · have q := kd0 k0 hk0
      exact ⟨Ne.symm q.1, Ne.symm q.2.2.1, ldict hst b0 rfl, ldict hpl b0 rfl, ldict ho0 b0 rfl, fun k hk e => nodup_at (List.nodup_append.mp W.dd).1 hk hk0 e, fun e he => let ⟨_, h1⟩ := lat e he; ldict h1 b0 rfl⟩
    · have q := kd1 k1 hk1
      exact ⟨Ne.symm q.1, Ne.symm q.2.2.1, ldict hst b1 rfl, ldict hpl b1 rfl, ldict ho0 b1 rfl, fun k hk e => absurd e ((List.nodup_append.mp W.dd).2.2 _ (List.mem_map_of_mem hk) _ (List.mem_map_of_mem hk1)), fun e he => let ⟨_, h1⟩ := lat e he; ldict h1 b1 rfl⟩
    · exact ⟨tb.1.2.2.2.1, tb.2.2.1.2.1, ldict hst TL.mem TL.tab.mk1, ldict hpl TL.mem TL.tab.mk1, ldict ho0 TL.mem TL.tab.mk1, fun k hk e => absurd e (kd0 k hk).2.2.2.2.1, fun e he => let ⟨_, h1⟩ := lat e he; ldict h1 TL.mem TL.tab.mk1⟩
/-- a closed variable is set -/
theorem Two.shut (W : Two w tms nt g0 dg0 st0 ou0 kn0 g1 dg1 st1 ou1 kn1 lf pl tm vals ns N ups0 ups1 kx0 kx1 lx) (n : News h₀ L h N) (K : Keep [k0.d, k1.d, lf] N N') (he0 : e0 ∈ lx) (hc0 : e0.c ≠ none) (hk0 : k0 ∈ kx0) (hkk0 : k0.key = e0.key) (hk1 : k1 ∈ kx1) (hkk1 : k1.key = e0.key)
    (u0 : UpAt w.params N' k0.u k0.d .none (-1) (.int i t)) (u1 : UpAt w.params N' k1.u k1.d .none (-1) (.int i t)) (hlf : ∃ o, (lf, o) ∈ N' ∧ IsTab prog w o (lfTab (lx.map (setE e0.key l (.int i t))))) (hl : LiAt N' l [.int i t]) (hln : ∀ q ∈ N, q.1 < l) :
    Two w tms nt g0 dg0 st0 ou0 kn0 g1 dg1 st1 ou1 kn1 lf pl tm vals ns N' ups0 ups1 kx0 kx1 (lx.map (setE e0.key l (.int i t))) := by
  obtain ⟨_, a1⟩ := W.h0.stk
  obtain ⟨_, a2⟩ := W.h1.stk
  obtain ⟨_, a3⟩ := W.h0.pln
  obtain ⟨_, a4⟩ := W.h0.fi.li
  obtain ⟨_, a5⟩ := W.h1.fi.li
  obtain ⟨olf, TL⟩ := W.h0.fi.lt
  obtain ⟨o, t1, t2⟩ := W.tmo
  have kq0 := ni6 (W.kd k0 (List.mem_append_left _ hk0))
  have kq1 := ni6 (W.kd k1 (List.mem_append_right _ hk1))
  have tb := nd6 W.tabs
  refine ⟨W.shutH n K he0 hc0 hk0 hkk0 hk1 u0 hlf hl (Nat.ne_of_gt (hln _ a4)), W.swap.shutH n (K.wider fun x hx => ?_) he0 hc0 hk1 hkk1 hk0 u1 hlf hl (Nat.ne_of_gt (hln _ a5)), ⟨o, K _ t1 ?_, t2⟩, W.tlo, W.dd, W.tabs, W.lsts, W.kd, fun e he => ?_⟩
  · simp only [List.mem_cons, List.not_mem_nil, or_false] at hx ⊢
    rcases hx with h | h | h
    · exact .inr (.inl h)
    · exact .inl h
    · exact .inr (.inr h)
  · simp only [List.mem_cons, List.not_mem_nil, or_false, not_or]
    exact ⟨Ne.symm kq0.2.2.2.2.2, Ne.symm kq1.2.2.2.2.2, Ne.symm tb.2.2.2.2⟩
  · obtain ⟨z, hz, rfl⟩ := List.mem_map.mp he
    unfold setE
    split
    · simp only [List.mem_cons, List.not_mem_nil, or_false, not_or]
      exact ⟨Nat.ne_of_gt (hln _ a1), Nat.ne_of_gt (hln _ a2), Nat.ne_of_gt (hln _ a3), Nat.ne_of_gt (hln _ a4), Nat.ne_of_gt (hln _ a5)⟩
    · exact W.las z hz
/-- the second ground, after the first is asked -/
theorem Two.fi1 (W : Two w tms nt g0 dg0 st0 ou0 kn0 g1 dg1 st1 ou1 kn1 lf pl tm vals ns N ups0 ups1 kx0 kx1 lx) (n : News h₀ L h N) (I0 : FI w tms g0 dg0 st0 ou0 kn0 lf vals.length N1 ups0' (kx0 ++ ke0) (lx ++ le0)) (S0 : Step [ou0, kn0, lf] N N1) {places : List Value}
    (f0 : FNew tms N places places.length kx0 lx ke0 le0) : FI w tms g1 dg1 st1 ou1 kn1 lf vals.length N1 ups1 kx1 (lx ++ le0) := by
  have tb := nd6 W.tabs
  have ls := nd5 W.lsts
  obtain ⟨okn, TK⟩ := W.h0.fi.kt
  obtain ⟨c, a4⟩ := W.h0.fi.li
  obtain ⟨_, a5⟩ := W.h1.fi.li
  refine W.h1.fi.other n S0.keep ⟨_, _, a4⟩ ⟨okn, TK.mem, TK.tab.mk1⟩ (Ne.symm ls.2.2.2) (Ne.symm tb.2.2.1.1) tb.2.1.1 (fun k hk => (ni6 (W.kd k (List.mem_append_right _ hk))).2.2.1) I0.lt I0.las I0.ll fun e he => ?_
  rcases List.mem_append.mp he with he | he
  · exact (ni5 (W.las e he)).2.2.2.2
  · exact Nat.ne_of_gt ((f0.l e he).2.2.2 _ a5)
theorem FNew.none {tms : Int → Int} {news : Led} {places : List Value} {n : Nat} {kx ke : List Kn} {lx le : List En} (f : FNew tms news places n kx lx ke le) (hn : ((lfTab (lx ++ le)).map (·.1)).Nodup) (h : ∀ p t, Value.int p t ∈ places → ∃ e ∈ lx, e.key = [p, tms p]) : le = [] := by
  cases le with
  | nil => rfl
  | cons e r =>
    obtain ⟨_, e2, ⟨t, ht⟩, _⟩ := f.l e (.head _)
    obtain ⟨e', h1, h2⟩ := h _ _ ht
    have hk : e.key = e'.key := by rw [h2]; show [e.p, e.t] = _; rw [e2]
    rw [lfTab, List.map_append, List.map_append, List.nodup_append] at hn
    have := hn.2.2 e'.key (by rw [List.map_map]; exact List.mem_map.mpr ⟨e', h1, rfl⟩) e.key (by rw [List.map_map]; exact List.mem_map.mpr ⟨e, .head _, rfl⟩)
    exact absurd hk.symm this
theorem FNew.at {tms : Int → Int} {news : Led} {places : List Value} {kx ke : List Kn} {lx le : List En} (f : FNew tms news places places.length kx lx ke le) {p : Int} {t : Tok} (h : Value.int p t ∈ places) : (∃ k ∈ kx ++ ke, k.key = [p, tms p]) ∧ ∃ e ∈ lx ++ le, e.key = [p, tms p] := by
  obtain ⟨j, hj⟩ := List.mem_iff_getElem?.mp h
  exact f.has j (List.getElem?_eq_some_iff.mp hj).1 p t hj
theorem new_nodup {w : World} {tms : Int → Int} {g dg st ou kn lf : Addr} {vlen : Nat} {N N' : Led} {ups : List Up} {kx ke : List Kn} {lx : List En} {h₀ h : Heap} {L : Addr} (I : FI w tms g dg st ou kn lf vlen N' ups (kx ++ ke) lx) (n : News h₀ L h N') (hd : (kx.map (·.d)).Nodup) (hin : ∀ k ∈ kx, ∃ o, (k.d, o) ∈ N) (hnew : ∀ k ∈ ke, k.t = tms k.p ∧ ∀ q ∈ N, q.1 < k.d) : ((kx ++ ke).map (·.d)).Nodup := by
  rw [List.map_append, List.nodup_append]
  refine ⟨hd, ?_, fun a ha b hb => ?_⟩
  · have h1 : (ke.map (·.u)).Nodup := by have := I.r2; rw [List.map_append, List.nodup_append] at this; exact this.2.1
    rw [List.nodup_iff_pairwise_ne, List.pairwise_map] at h1 ⊢
    refine List.Pairwise.imp_of_mem (fun {x y} hx hy hne e => hne ?_) h1
    obtain ⟨a, a1, _, a2, a3⟩ := I.r3 x (List.mem_append_right _ hx) (hnew x hx).1
    obtain ⟨b, b1, _, b2, b3⟩ := I.r3 y (List.mem_append_right _ hy) (hnew y hy).1
    have := nodup_at (I.nd n) a1 b1 (by rw [a3, b3, e])
    rw [← a2, ← b2, this]
  · obtain ⟨x, hx, rfl⟩ := List.mem_map.mp ha
    obtain ⟨y, hy, rfl⟩ := List.mem_map.mp hb
    obtain ⟨o, ho⟩ := hin x hx
    exact Nat.ne_of_lt ((hnew y hy).2 _ ho)
end
end
section
section
variable {w : World} {tms : Int → Int} {g dg st ou kn lf pl : Addr} {vals : List Value} {ns : List Int} {N N2 : Led} {ups ups' : List Up} {kx ke : List Kn} {lx le : List En} {h₀ h h2 : Heap} {L : Addr}
theorem HI.found (H : HI w tms g dg st ou kn lf pl vals ns N ups kx lx) (IF : FI w tms g dg st ou kn lf vals.length N2 ups' (kx ++ ke) (lx ++ le)) (n2 : News h₀ L h2 N2) (stk : LiAt N2 st vals) (pln : LiAt N2 pl vals)
    (hk : ∀ k ∈ ke, ∃ e ∈ lx ++ le, e.key = k.key) (hl : ∀ e ∈ le, e.c = none ∧ e.t = tms e.p ∧ ∃ k ∈ kx ++ ke, k.key = e.key) (keep : ∀ k ∈ kx, ∀ v, UpAt w.params N k.u k.d .none (-1) v → UpAt w.params N2 k.u k.d .none (-1) v) : HI w tms g dg st ou kn lf pl vals ns N2 ups' (kx ++ ke) (lx ++ le) where
  fi := IF
  stk := stk
  pln := pln
  iv := H.iv
  nd := IF.nd n2
  ne := H.ne
  opn := fun e he => by
    rcases List.mem_append.mp he with he | he
    · exact H.opn e he
    · obtain ⟨a, b, _⟩ := hl e he
      exact ⟨fun _ => b, fun _ => a⟩
  ex := fun e he => by
    rcases List.mem_append.mp he with he | he
    · obtain ⟨k, k1, k2, k3⟩ := H.ex e he
      exact ⟨k, List.mem_append_left _ k1, k2, fun v hv => ⟨keep k k1 v (k3 v hv).1, (k3 v hv).2⟩⟩
    · obtain ⟨a, b, k, k1, k2⟩ := hl e he
      exact ⟨k, k1, k2, fun v hv => by rw [a] at hv; cases hv⟩
  all := fun k hk' => by
    rcases List.mem_append.mp hk' with h | h
    · obtain ⟨e, e1, e2⟩ := H.all k h
      exact ⟨e, List.mem_append_left _ e1, e2⟩
    · exact hk k h
  le := fun e he => by
    rcases List.mem_append.mp he with he | he
    · exact H.le e he
    · exact Int.le_of_eq (hl e he).2.1
end
section
variable {w : World} {tms : Int → Int} {nt : Nat} {g0 dg0 st0 ou0 kn0 g1 dg1 st1 ou1 kn1 lf pl tm : Addr} {vals : List Value} {ns : List Int} {N N1 N2 : Led} {ups0 ups1 ups0' ups1' : List Up} {kx0 kx1 ke0 ke1 : List Kn} {lx le0 le1 : List En} {h₀ h h1 h2 : Heap} {L : Addr}
/-- both grounds are asked for the same places -/
theorem Two.found (W : Two w tms nt g0 dg0 st0 ou0 kn0 g1 dg1 st1 ou1 kn1 lf pl tm vals ns N ups0 ups1 kx0 kx1 lx) (n : News h₀ L h N) (n1 : News h₀ L h1 N1) (n2 : News h₀ L h2 N2)
    (I0 : FI w tms g0 dg0 st0 ou0 kn0 lf vals.length N1 ups0' (kx0 ++ ke0) (lx ++ le0)) (S0 : Step [ou0, kn0, lf] N N1) {pls0 pls1 : List Value} (f0 : FNew tms N pls0 pls0.length kx0 lx ke0 le0)
    (I1 : FI w tms g1 dg1 st1 ou1 kn1 lf vals.length N2 ups1' (kx1 ++ ke1) ((lx ++ le0) ++ le1)) (S1 : Step [ou1, kn1, lf] N1 N2) (f1 : FNew tms N1 pls1 pls1.length kx1 (lx ++ le0) ke1 le1) (hp : ∀ v, v ∈ pls0 ↔ v ∈ pls1) :
    Two w tms nt g0 dg0 st0 ou0 kn0 g1 dg1 st1 ou1 kn1 lf pl tm vals ns N2 ups0' ups1' (kx0 ++ ke0) (kx1 ++ ke1) (lx ++ le0) := by
  obtain rfl : le1 = [] := f1.none (let ⟨_, T⟩ := I1.lt; T.tab.nodup) fun p t h => (f0.at ((hp _).mpr h)).2
  rw [List.append_nil] at I1
  have tb := nd6 W.tabs
  have ls := nd5 W.lsts
  have kd0 : ∀ k ∈ kx0, k.d ≠ dg0 ∧ k.d ≠ dg1 ∧ k.d ≠ kn0 ∧ k.d ≠ kn1 ∧ k.d ≠ lf ∧ k.d ≠ tm := fun k hk => ni6 (W.kd k (List.mem_append_left _ hk))
  have kd1 : ∀ k ∈ kx1, k.d ≠ dg0 ∧ k.d ≠ dg1 ∧ k.d ≠ kn0 ∧ k.d ≠ kn1 ∧ k.d ≠ lf ∧ k.d ≠ tm := fun k hk => ni6 (W.kd k (List.mem_append_right _ hk))
  obtain ⟨c0, o0⟩ := W.h0.fi.li
  obtain ⟨c1, o1⟩ := W.h1.fi.li
  obtain ⟨ok0, T0⟩ := W.h0.fi.kt
  obtain ⟨ok1, T1⟩ := W.h1.fi.kt
  obtain ⟨olf, TL⟩ := W.h0.fi.lt
  obtain ⟨s0, b0⟩ := W.h0.stk
  obtain ⟨s1, b1⟩ := W.h1.stk
  obtain ⟨s2, b2⟩ := W.h0.pln
  obtain ⟨_, _, d0⟩ := W.h0.fi.gr.2
  obtain ⟨_, _, d1⟩ := W.h1.fi.gr.2
  obtain ⟨ot, t1, t2⟩ := W.tmo
  have FI1 := W.fi1 n I0 S0 f0
  obtain ⟨c1', o1'⟩ := FI1.li
  obtain ⟨ok1', T1'⟩ := FI1.kt
  -- what both steps leave alone
  have mv : ∀ {b : Addr} {ob : Obj}, (b, ob) ∈ N → b ≠ ou0 → b ≠ kn0 → b ≠ lf → b ≠ ou1 → b ≠ kn1 → (b, ob) ∈ N2 := fun hb n1 n2 n3 n4 n5 => S1.keep _ (S0.keep _ hb (by simp only [List.mem_cons, List.not_mem_nil, or_false, not_or]; exact ⟨n1, n2, n3⟩)) (by simp only [List.mem_cons, List.not_mem_nil, or_false, not_or]; exact ⟨n4, n5, n3⟩)
  have ldict : ∀ {b b' : Addr} {vs : Array Value} {c : Nat} {o : Obj}, (b, listOf vs c) ∈ N → (b', o) ∈ N → (Mine.mk o).1 = 2 → b ≠ b' := fun h1 h2 h3 => ne_mk1 n h1 h2 (by rw [mk_list, h3]; decide)
  have ml : ∀ {b : Addr} {vs : Array Value} {c : Nat}, (b, listOf vs c) ∈ N → b ≠ ou0 → b ≠ ou1 → (b, listOf vs c) ∈ N2 := fun hb n1 n2 => mv hb n1 (ldict hb T0.mem T0.tab.mk1) (ldict hb TL.mem TL.tab.mk1) n2 (ldict hb T1.mem T1.tab.mk1)
  have mi : ∀ {b C d : Addr}, (b, instObj C d) ∈ N → (b, instObj C d) ∈ N2 := fun {b C d} hb => by
    have q : ∀ {b' : Addr} {o : Obj}, (b', o) ∈ N → (Mine.mk o).1 = 1 ∨ (Mine.mk o).1 = 2 → b ≠ b' := fun h1 h2 => ne_mk1 n hb h1 (by rw [mk_inst]; show (3 : Nat) ≠ _; omega)
    exact mv hb (q o0 (.inl rfl)) (q T0.mem (.inr T0.tab.mk1)) (q TL.mem (.inr TL.tab.mk1)) (q o1 (.inl rfl)) (q T1.mem (.inr T1.tab.mk1))
  have mu : ∀ {u d : Addr} {th v : Value} {ix : Int}, UpAt w.params N u d th ix v → d ≠ kn0 → d ≠ lf → d ≠ kn1 → UpAt w.params N2 u d th ix v := fun {u d th v ix} ⟨a1, τ, c, a2⟩ n1 n2 n3 => ⟨mi a1, τ, c, mv a2 (Ne.symm (ldict o0 a2 rfl)) n1 n2 (Ne.symm (ldict o1 a2 rfl)) n3⟩
  have FI0 : FI w tms g0 dg0 st0 ou0 kn0 lf vals.length N2 ups0' (kx0 ++ ke0) (lx ++ le0) := by
    refine I0.other n1 S1.keep ⟨_, _, o1'⟩ ⟨_, T1'.mem, T1'.tab.mk1⟩ ls.2.2.2 tb.2.2.1.1 tb.1.2.2.1 (fun k hk => ?_) I1.lt I1.las I1.ll fun e he => ?_
    · rcases List.mem_append.mp hk with hk | hk
      · exact (kd0 k hk).2.2.2.1
      · exact Nat.ne_of_gt ((f0.k k hk).2.2 _ T1.mem).1
    · exact I0.a4 e he
  have inN1 : ∀ k ∈ kx0 ++ ke0, ∃ o, (k.d, o) ∈ N1 := fun k hk => by
    obtain ⟨_, _, _, _, _, _, _, a⟩ := I0.ins k hk
    exact ⟨_, a⟩
  refine ⟨W.h0.found FI0 n2 ⟨s0, ml b0 ls.1.2.2.1 ls.1.2.2.2⟩ ⟨s2, ml b2 ls.2.2.1.1 ls.2.2.1.2⟩ (fun k hk => ?_) (fun e he => ?_) (fun k hk v hu => mu hu (kd0 k hk).2.2.1 (kd0 k hk).2.2.2.2.1 (kd0 k hk).2.2.2.1),
    W.h1.found I1 n2 ⟨s1, ml b1 ls.2.1.2.1 ls.2.1.2.2⟩ ⟨s2, ml b2 ls.2.2.1.1 ls.2.2.1.2⟩ (fun k hk => ?_) (fun e he => ?_) (fun k hk v hu => mu hu (kd1 k hk).2.2.1 (kd1 k hk).2.2.2.2.1 (kd1 k hk).2.2.2.1), ⟨ot, mv t1 (Ne.symm (ldict o0 t1 t2.mk1)) (Ne.symm tb.2.2.1.2.2) (Ne.symm tb.2.2.2.2) (Ne.symm (ldict o1 t1 t2.mk1)) (Ne.symm tb.2.2.2.1.2), t2⟩, W.tlo, ?_, W.tabs, W.lsts, fun k hk => ?_, fun e he => ?_⟩
  · obtain ⟨a, ⟨t, b⟩, _⟩ := f0.k k hk
    obtain ⟨e, e1, e2⟩ := (f0.at b).2
    exact ⟨e, e1, by rw [e2]; show _ = [k.p, k.t]; rw [a]⟩
  · obtain ⟨a, b, ⟨t, c⟩, _⟩ := f0.l e he
    obtain ⟨k, k1, k2⟩ := (f0.at c).1
    exact ⟨a, b, k, k1, by rw [k2]; show _ = [e.p, e.t]; rw [b]⟩
  · obtain ⟨a, ⟨t, b⟩, _⟩ := f1.k k hk
    obtain ⟨e, e1, e2⟩ := (f0.at ((hp _).mpr b)).2
    exact ⟨e, e1, by rw [e2]; show _ = [k.p, k.t]; rw [a]⟩
  · obtain ⟨a, b, ⟨t, c⟩, _⟩ := f0.l e he
    obtain ⟨k, k1, k2⟩ := (f1.at ((hp _).mp c)).1
    exact ⟨a, b, k, k1, by rw [k2]; show _ = [e.p, e.t]; rw [b]⟩
  · have dd := List.nodup_append.mp W.dd
    have z0 := new_nodup I0 n1 dd.1 (fun k hk => let ⟨_, _, _, _, _, _, _, a⟩ := W.h0.fi.ins k hk; ⟨_, a⟩) fun k hk => ⟨(f0.k k hk).1, fun q hq => ((f0.k k hk).2.2 q hq).1⟩
    have z1 := new_nodup I1 n2 dd.2.1 (fun k hk => let ⟨_, _, _, _, _, _, _, a⟩ := FI1.ins k hk; ⟨_, a⟩) fun k hk => ⟨(f1.k k hk).1, fun q hq => ((f1.k k hk).2.2 q hq).1⟩
    rw [List.nodup_append]
    refine ⟨z0, z1, fun a ha b hb => ?_⟩
    obtain ⟨x, hx, rfl⟩ := List.mem_map.mp ha
    obtain ⟨y, hy, rfl⟩ := List.mem_map.mp hb
    rcases List.mem_append.mp hy with hy | hy
    · rcases List.mem_append.mp hx with hx | hx
      · exact dd.2.2 _ (List.mem_map_of_mem hx) _ (List.mem_map_of_mem hy)
      · obtain ⟨_, _, _, _, _, _, _, a⟩ := W.h1.fi.ins y hy
        exact Nat.ne_of_gt ((f0.k x hx).2.2 _ a).1
    · obtain ⟨o, ho⟩ := inN1 x hx
      exact Nat.ne_of_lt ((f1.k y hy).2.2 _ ho).1
  · have old : k ∈ kx0 ∨ k ∈ kx1 → k.d ∉ [dg0, dg1, kn0, kn1, lf, tm] := fun h => W.kd k (List.mem_append.mpr h)
    have new : (∀ q ∈ N, q.1 < k.d) → k.d ∉ [dg0, dg1, kn0, kn1, lf, tm] := fun h => by
      simp only [List.mem_cons, List.not_mem_nil, or_false, not_or]
      exact ⟨Nat.ne_of_gt (h _ d0), Nat.ne_of_gt (h _ d1), Nat.ne_of_gt (h _ T0.mem), Nat.ne_of_gt (h _ T1.mem), Nat.ne_of_gt (h _ TL.mem), Nat.ne_of_gt (h _ t1)⟩
    rcases List.mem_append.mp hk with hk | hk
    · rcases List.mem_append.mp hk with hk | hk
      · exact old (.inl hk)
      · exact new fun q hq => ((f0.k k hk).2.2 q hq).1
    · rcases List.mem_append.mp hk with hk | hk
      · exact old (.inr hk)
      · exact new (S0.lt fun q hq => ((f1.k k hk).2.2 q hq).1)
  · rcases List.mem_append.mp he with he | he
    · exact W.las e he
    · have h := (f0.l e he).2.2.2
      simp only [List.mem_cons, List.not_mem_nil, or_false, not_or]
      exact ⟨Nat.ne_of_gt (h _ b0), Nat.ne_of_gt (h _ b1), Nat.ne_of_gt (h _ b2), Nat.ne_of_gt (h _ o0), Nat.ne_of_gt (h _ o1)⟩
end
end
section
/-- an object that the state of the law may speak of -/
def nice (o : Obj) : Bool := match o.data with
  | .plain => true
  | .seq _ _ => true
  | .dict _ _ => true
  | _ => false
def SubN (N N' : Led) : Prop := ∀ p ∈ N, nice p.2 = true → p ∈ N'
theorem nice_tab {prog : Program} {w : World} {o : Obj} {xs : TL} (t : IsTab prog w o xs) : nice o = true := by
  obtain ⟨es, ep, _, hd, _⟩ := t
  unfold nice; rw [hd]
theorem nice_dict {K : Type} [DecidableEq K] {prog : Program} {w : World} {knd : KeyKind prog w K} {o : Obj} {kvs : List (K × Value)} (t : o.IsDictOf knd kvs) : nice o = true := by
  obtain ⟨es, ep, _, hd, _⟩ := t
  unfold nice; rw [hd]
theorem nice_cell {o : Obj} {x : Option Value} (h : o.data = .cell x) : nice o = false := by unfold nice; rw [h]
section
variable {w : World} {N N' : Led} (s : SubN N N')
include s
theorem UpAt.nic {P : Params} {u d : Addr} {th v : Value} {ix : Int} (x : UpAt P N u d th ix v) : UpAt P N' u d th ix v := let ⟨a, τ, c, b⟩ := x; ⟨s _ a rfl, τ, c, s _ b rfl⟩
theorem GrAt.nic {P : Params} {g d st ou : Addr} (x : GrAt P N g d st ou) : GrAt P N' g d st ou := let ⟨a, τ, c, b⟩ := x; ⟨s _ a rfl, τ, c, s _ b rfl⟩
theorem LiAt.nic {l : Addr} {vs : List Value} (x : LiAt N l vs) : LiAt N' l vs := let ⟨c, b⟩ := x; ⟨c, s _ b rfl⟩
theorem InstIn.nic {u d : Addr} (x : InstIn N u d) : InstIn N' u d := let ⟨a, P, τ, th, ix, v, c, b⟩ := x; ⟨s _ a rfl, P, τ, th, ix, v, c, s _ b rfl⟩
theorem KeyIn.nic {prog : Program} {k : List Int} {a : Addr} (x : KeyIn prog w N k a) : KeyIn prog w N' k a := by
  obtain ⟨ok, h1, h2⟩ := x
  refine ⟨ok, s _ h1 ?_, h2⟩
  obtain ⟨_, items, c, hd, _⟩ := h2
  show nice ok = true
  unfold nice; rw [hd]
theorem TabAt.nic {prog : Program} {d : Addr} {o : Obj} {xs : TL} (T : TabAt prog w N d o xs) : TabAt prog w N' d o xs := ⟨T.lo, s _ T.mem (nice_tab T.tab), T.tab, fun x hx => KeyIn.nic s (T.keys x hx)⟩
theorem FI.nic {tms : Int → Int} {g dg st ou kn lf : Addr} {vlen : Nat} {ups : List Up} {kx : List Kn} {lx : List En} (I : FI w tms g dg st ou kn lf vlen N ups kx lx) : FI w tms g dg st ou kn lf vlen N' ups kx lx where
  gr := GrAt.nic s I.gr
  li := LiAt.nic s I.li
  ops := fun x hx => UpAt.nic s (I.ops x hx)
  kt := let ⟨o, T⟩ := I.kt; ⟨o, TabAt.nic s T⟩
  lt := let ⟨o, T⟩ := I.lt; ⟨o, TabAt.nic s T⟩
  ins := fun k hk => InstIn.nic s (I.ins k hk)
  las := fun e he => LiAt.nic s (I.las e he)
  sorted := I.sorted
  rng := I.rng
  vl := I.vl
  kl := I.kl
  ll := I.ll
  r1 := I.r1
  r2 := I.r2
  r3 := I.r3
  a1 := I.a1
  a2 := I.a2
  a3 := I.a3
  a4 := I.a4
theorem HI.nic {tms : Int → Int} {g dg st ou kn lf pl : Addr} {vals : List Value} {ns : List Int} {ups : List Up} {kx : List Kn} {lx : List En} (H : HI w tms g dg st ou kn lf pl vals ns N ups kx lx) : HI w tms g dg st ou kn lf pl vals ns N' ups kx lx where
  fi := FI.nic s H.fi
  stk := LiAt.nic s H.stk
  pln := LiAt.nic s H.pln
  iv := H.iv
  nd := H.nd
  ne := H.ne
  opn := H.opn
  ex := fun e he => let ⟨k, h1, h2, h3⟩ := H.ex e he; ⟨k, h1, h2, fun v hv => ⟨UpAt.nic s (h3 v hv).1, (h3 v hv).2⟩⟩
  all := H.all
  le := H.le
theorem Two.nic {tms : Int → Int} {nt : Nat} {g0 dg0 st0 ou0 kn0 g1 dg1 st1 ou1 kn1 lf pl tm : Addr} {vals : List Value} {ns : List Int} {ups0 ups1 : List Up} {kx0 kx1 : List Kn} {lx : List En}
    (W : Two w tms nt g0 dg0 st0 ou0 kn0 g1 dg1 st1 ou1 kn1 lf pl tm vals ns N ups0 ups1 kx0 kx1 lx) : Two w tms nt g0 dg0 st0 ou0 kn0 g1 dg1 st1 ou1 kn1 lf pl tm vals ns N' ups0 ups1 kx0 kx1 lx where
  h0 := HI.nic s W.h0
  h1 := HI.nic s W.h1
  tmo := by
    obtain ⟨o, a, b⟩ := W.tmo
    refine ⟨o, s _ a ?_, b⟩
    obtain ⟨_, t, _⟩ := b
    exact nice_dict t
  tlo := W.tlo
  dd := W.dd
  tabs := W.tabs
  lsts := W.lsts
  kd := W.kd
  las := W.las
end
section
variable {w : World} {N N' : Led} {h₀ h : Heap} {L c : Addr} {oc oc' : Obj}
theorem subN_off (n : News h₀ L h N) (hc : (c, oc) ∈ N) (hn : nice oc = false) : SubN N (off c N) := fun p hp hq => mem_off_of hp fun e => by
  have : p.2 = oc := news_one n hp (by rw [e]; exact hc)
  rw [this, hn] at hq; cases hq
theorem subN_cell (n : News h₀ L h N) (hc : (c, oc) ∈ N) (hn : nice oc = false) : SubN N ((c, oc') :: off c N) := fun p hp hq => .tail _ (subN_off n hc hn p hp hq)
theorem subN_tail {p : Addr × Obj} (hn : nice p.2 = false) : SubN (p :: N) N := fun q hq hn' => by
  rcases List.mem_cons.mp hq with rfl | hq
  · rw [hn] at hn'; cases hn'
  · exact hq
end
/-- the tape -/
inductive TapeAt (w : World) (tp rw : Addr) (rvs : List Value) (N : Led) (n : Int) : Prop
  | mk (o : Obj) (tn : Tok) (k : Nat) (h1 : (tp, o) ∈ N) (h2 : o.IsDictOf (strKind prog w) [(Str.ofString "row", .ref rw), (Str.ofString "turn", .int n tn)]) (h3 : (rw, listOf rvs.toArray k) ∈ N) : TapeAt w tp rw rvs N n
theorem TapeAt.nic {w : World} {tp rw : Addr} {rvs : List Value} {N N' : Led} {n : Int} (s : SubN N N') (T : TapeAt w tp rw rvs N n) : TapeAt w tp rw rvs N' n := let ⟨o, tn, k, a, b, c⟩ := T; ⟨o, tn, k, s _ a (nice_dict b), b, s _ c rfl⟩
theorem TapeAt.mono {w : World} {tp rw : Addr} {rvs : List Value} {N N' : Led} {n : Int} (T : TapeAt w tp rw rvs N n) (s : ∀ p ∈ N, p ∈ N') : TapeAt w tp rw rvs N' n := T.nic fun p hp _ => s p hp
theorem TapeAt.keep {w : World} {tp rw : Addr} {rvs : List Value} {N N' : Led} {n : Int} {fp : List Addr} (T : TapeAt w tp rw rvs N n) (K : Keep fp N N') (h1 : tp ∉ fp) (h2 : rw ∉ fp) : TapeAt w tp rw rvs N' n := let ⟨o, tn, k, a, b, c⟩ := T; ⟨o, tn, k, K _ a h1, b, K _ c h2⟩
section
variable {w : World} {loose : List Str} {mean : ExcName → Option Value} {mg mb : Str → Option Value} {dp un : Nat} {gd : Option (List Code)} {cn : Str} {cs : Scope} {a : Addr} {ccd : Value} {cl : List (Str × Addr)} {outer : List Env} {A₀ : Around} {base h₀ : Heap} {L : Addr} {m : Str → Option Value} {s : Shared} {Q E : Value → Shared → Prop} {news : Led}
theorem numS_spec {tp rw : Addr} {rvs : List Value} {rns : List Int} {n b : Int} {tb : Tok}
    (B : Below A₀ base outer h₀) (F : Fr h₀ L s.heap m) (X : (Mine.Hd.top.heap_1 w.params).In h₀) (N : News h₀ L s.heap news) (T : Top VW loose mean mg mb h₀) (hk : cs.kind = .function) (hd : dp ≤ 460) (hu : un ≤ 600)
    (tape : TapeAt w tp rw rvs news n) (hI : IntsAre rvs rns) (hlen : rns.length ≤ 63) (hn : 0 ≤ n ∧ n ≤ 1000) (hb : 0 < b ∧ b ≤ 1000)
    (post : ∀ v tv N' h' tk', 0 ≤ v ∧ v < b → Fr h₀ L h' m → News h₀ L h' N' → Step [tp] news N' → TapeAt w tp rw rvs N' (n + 1) → Q (.int v tv) { s with heap := h', toks := tk' }) :
    wpAny (model prog w) (ktrTop dp un gd cn cs L a ccd cl outer) (call (.ref 160) [.ref tp, .int b tb]) Q E s := by
  obtain ⟨o, tn, k, h1, h2, h3⟩ := tape
  have hne : rw ≠ tp := ne_mk1 N h3 h1 (by rw [mk_list, IsDictOf.mk1 h2]; decide)
  refine num_spec (rest := off tp news) (k := k) B F X (sub (news' := (tp, o) :: (rw, listOf rvs.toArray k) :: off tp news) N fun p hp => ?_) T hk hd hu off_ne hne h2 hI hlen hn.1 hn.2 hb.1 hb.2 fun v tv o' tn' h' tk' v0 v1 F' N' d' => ?_
  · rcases List.mem_cons.mp hp with rfl | hp
    · exact h1
    rcases List.mem_cons.mp hp with rfl | hp
    · exact h3
    · exact off_sub _ hp
  · exact post v tv _ h' tk' ⟨v0, v1⟩ F' (sub (news' := (tp, o') :: off tp news) N' fun p hp => by
      rcases List.mem_cons.mp hp with rfl | hp
      · exact .head _
      · exact .tail _ (.tail _ hp)) step_front ⟨o', tn', k, .head _, d', .tail _ (mem_off_of h3 hne)⟩
end
section
variable {w : World} {tms : Int → Int} {nt : Nat} {g0 dg0 st0 ou0 kn0 g1 dg1 st1 ou1 kn1 lf pl tm : Addr} {vals : List Value} {ns : List Int} {N N' : Led} {ups0 ups1 : List Up} {kx0 kx1 : List Kn} {lx : List En} {h₀ h : Heap} {L b : Addr} {o : Obj}
theorem HI.keep1 {g dg st ou kn : Addr} {ups : List Up} {kx : List Kn} (H : HI w tms g dg st ou kn lf pl vals ns N ups kx lx) (n : News h₀ L h N) (K : Keep [b] N N') (hb : (b, o) ∈ N) (h2 : (Mine.mk o).1 = 2) (q1 : dg ≠ b) (q2 : kn ≠ b) (q3 : lf ≠ b) (q4 : ∀ k ∈ kx, k.d ≠ b) : HI w tms g dg st ou kn lf pl vals ns N' ups kx lx := by
  have I := H.fi
  have mv : ∀ {c : Addr} {ob : Obj}, (c, ob) ∈ N → c ≠ b → (c, ob) ∈ N' := fun hc h => K _ hc (by simpa using h)
  have mi : ∀ {c C d : Addr}, (c, instObj C d) ∈ N → (c, instObj C d) ∈ N' := fun hc => mv hc (ne_mk1 n hc hb (by rw [mk_inst, h2]; exact (by decide : (3 : Nat) ≠ 2)))
  have ml : ∀ {c : Addr} {vs : Array Value} {k : Nat}, (c, listOf vs k) ∈ N → (c, listOf vs k) ∈ N' := fun hc => mv hc (ne_mk1 n hc hb (by rw [mk_list, h2]; decide))
  have nt : NoTup N [b] := .cons hb (fun e => by rw [mk_tup e] at h2; cases h2) .nil
  obtain ⟨okn, TK⟩ := I.kt
  obtain ⟨olf, TL⟩ := I.lt
  refine ⟨⟨?_, ?_, fun x hx => ?_, ⟨okn, TK.keep n K nt (by simpa using q2)⟩, ⟨olf, TL.keep n K nt (by simpa using q3)⟩, fun k hk => ?_, fun e he => ?_, I.sorted, I.rng, I.vl, I.kl, I.ll, I.r1, I.r2, I.r3, I.a1, I.a2, I.a3, I.a4⟩, ?_, ?_, H.iv, H.nd, H.ne, H.opn, fun e he => ?_, H.all, H.le⟩
  · obtain ⟨a1, τ, c, a2⟩ := I.gr
    exact ⟨mi a1, τ, c, mv a2 q1⟩
  · obtain ⟨c, a⟩ := I.li
    exact ⟨c, ml a⟩
  · obtain ⟨a1, τ, c, a2⟩ := I.ops x hx
    obtain ⟨k, k1, _, _, _, k2⟩ := I.r1 x hx
    exact ⟨mi a1, τ, c, mv a2 (k2 ▸ q4 k k1)⟩
  · obtain ⟨a1, P, τ, th, ix, v, c, a2⟩ := I.ins k hk
    exact ⟨mi a1, P, τ, th, ix, v, c, mv a2 (q4 k hk)⟩
  · obtain ⟨c, a⟩ := I.las e he
    exact ⟨c, ml a⟩
  · obtain ⟨c, a⟩ := H.stk
    exact ⟨c, ml a⟩
  · obtain ⟨c, a⟩ := H.pln
    exact ⟨c, ml a⟩
  · obtain ⟨k, k1, k2, k3⟩ := H.ex e he
    exact ⟨k, k1, k2, fun v hv => let ⟨⟨a1, τ, c, a2⟩, hi⟩ := k3 v hv; ⟨⟨mi a1, τ, c, mv a2 (q4 k k1)⟩, hi⟩⟩
theorem Two.keep1 (W : Two w tms nt g0 dg0 st0 ou0 kn0 g1 dg1 st1 ou1 kn1 lf pl tm vals ns N ups0 ups1 kx0 kx1 lx) (n : News h₀ L h N) (K : Keep [b] N N') (hb : (b, o) ∈ N) (h2 : (Mine.mk o).1 = 2) (q1 : b ∉ [dg0, dg1, kn0, kn1, lf, tm]) (q2 : ∀ k ∈ kx0 ++ kx1, k.d ≠ b) :
    Two w tms nt g0 dg0 st0 ou0 kn0 g1 dg1 st1 ou1 kn1 lf pl tm vals ns N' ups0 ups1 kx0 kx1 lx := by
  have q := ni6 q1
  refine ⟨W.h0.keep1 n K hb h2 (Ne.symm q.1) (Ne.symm q.2.2.1) (Ne.symm q.2.2.2.2.1) fun k hk => q2 k (List.mem_append_left _ hk), W.h1.keep1 n K hb h2 (Ne.symm q.2.1) (Ne.symm q.2.2.2.1) (Ne.symm q.2.2.2.2.1) fun k hk => q2 k (List.mem_append_right _ hk), ?_, W.tlo, W.dd, W.tabs, W.lsts, W.kd, W.las⟩
  obtain ⟨ot, a, c⟩ := W.tmo
  exact ⟨ot, K _ a (by simpa using Ne.symm q.2.2.2.2.2), c⟩
end
end
section
section
variable {prog : Program} {w : World} {A : Around} {E : Value → Shared → Prop} {s : Shared} {env : Env} {h₀ : Heap} {x : Str} {body : List Stmt} {Q : Flow → Shared → Prop}
theorem for_WR {I : Addr} {k : Nat} {P : Nat → Value → Prop} {St : Nat → Heap → Prop} {m₀ : Str → Option Value} {news : Led} (J : Nat → (Str → Option Value) → Led → Prop)
    (W : Walks prog w A I [I] [I] k P St) (hst : St 0 s.heap) (hSt : ∀ i h, St i h → ∃ o, h.get? I = some o ∧ nice o = false) (hIL : I ≠ env.locals) (hI₀ : h₀.get? I = none) (hnI : ∀ p ∈ news, p.1 ≠ I)
    (F : Fr h₀ env.locals s.heap m₀) (N : News h₀ env.locals s.heap news) (hj : J 0 m₀ news)
    (turn : ∀ i v m₁ news₁ h tk oI, i < k → P i v → J i m₁ news₁ → nice oI = false → (∀ p ∈ news₁, p.1 ≠ I) → Fr h₀ env.locals h (fun y => if y = x then some v else m₁ y) → News h₀ env.locals h ((I, oI) :: news₁) →
      wpAny (model prog w) A (execs body env) (TurnE h₀ env.locals { s with heap := h, toks := tk } I oI [] (J (i + 1)) Q) E { s with heap := h, toks := tk })
    (done : ∀ m₁ news₁ h tk, J k m₁ news₁ → Fr h₀ env.locals h m₁ → News h₀ env.locals h news₁ → Q .next { s with heap := h, toks := tk }) :
    LoopAtV prog w A h₀ env x body Q E (.ref I) s := by
  refine ⟨I, [I], [I], k, P, St, m₀, news, fun i m n => J i m n, rfl, W, ?_, ?_, ?_, hst, F, N, hj, ?_, ?_⟩
  · intro hm
    exact hIL (List.mem_singleton.mp hm).symm
  · intro b hb; rw [List.mem_singleton.mp hb]; exact hI₀
  · intro p hp hb; exact hnI p hp (List.mem_singleton.mp hb)
  · rintro i v m₁ news₁ s₁ own ⟨hh, tk, rfl⟩ hik hP hJ hoff hown hget hall st₁ F₁ N₁
    obtain ⟨oI, hoI, nI⟩ := hSt _ _ st₁
    have N₂ : News h₀ env.locals hh ((I, oI) :: news₁) := fun p hp => by
      rcases List.mem_cons.mp hp with rfl | hp
      · exact ⟨hoI, hIL, hI₀⟩
      · exact N₁ p (List.mem_append_right _ hp)
    refine wpAny_mono (turn i v m₁ news₁ hh tk oI hik hP hJ nI (fun p hp e => hoff p hp (List.mem_singleton.mpr e)) F₁ N₂) (fun f s₂ h₂ => ?_) fun _ _ e => e
    have fin : TurnN h₀ env.locals { s with heap := hh, toks := tk } I oI [] (J (i + 1)) s₂ →
        LoopStepU h₀ env.locals [I] own (fun m n => J (i + 1) m n) { s with heap := hh, toks := tk } .next s₂ := by
      rintro ⟨h', tk', m', news', rfl, F', N', _, ho', hJ'⟩
      refine ⟨rfl, h', tk', m', news', rfl, F', fun p hp => ?_, fun p hp e => ho' p hp (List.mem_singleton.mp e), hJ'⟩
      rcases List.mem_append.mp hp with hp | hp
      · have e1 := hget p hp
        have e2 := hown p hp
        have e := List.mem_singleton.mp e2
        have : p = (I, oI) := by
          rw [e, hoI] at e1
          exact Prod.ext e (Option.some.inj e1).symm
        rw [this]; exact N' _ (.head _)
      · exact N' p (.tail _ hp)
    cases f with
    | ret v => exact .ret h₂
    | brk => exact .brk h₂
    | next => exact .next (fin h₂)
    | cont => exact .cont (fin h₂)
  · rintro h' tk m' news' F' N' _ hJ
    exact done m' news' h' tk hJ F' N'
/-- for x in range(n) -/
theorem for_R {r : Addr} {b : Int} {t u v : Tok} {n : Nat} {m₀ : Str → Option Value} {news : Led} (J : Nat → (Str → Option Value) → Led → Prop) (hh : A.handled = none)
    (F : Fr h₀ env.locals s.heap m₀) (N : News h₀ env.locals s.heap news) (hr : IsRange s.heap r 0 b 1 t u v) (hb : b = (n : Int)) (hz : n ≤ 1000000) (hj : J 0 m₀ news)
    (turn : ∀ i ti m₁ news₁ I h tk oI, i < n → J i m₁ news₁ → nice oI = false → (∀ p ∈ news₁, p.1 ≠ I) → Fr h₀ env.locals h (fun y => if y = x then some (.int (i : Int) ti) else m₁ y) → News h₀ env.locals h ((I, oI) :: news₁) →
      wpAny (model prog w) A (execs body env) (TurnE h₀ env.locals { s with heap := h, toks := tk } I oI [] (J (i + 1)) Q) E { s with heap := h, toks := tk })
    (done : ∀ m₁ news₁ h tk, J n m₁ news₁ → Fr h₀ env.locals h m₁ → News h₀ env.locals h news₁ → Q .next { s with heap := h, toks := tk }) :
    wpAny (model prog w) A (pyIter (.ref r)) (fun it s₂ => LoopAtV prog w A h₀ env x body Q E it s₂) E s := by
  subst hb
  have hsm : Builtin.Range.small 0 (n : Int) 1 = true := small_one (by decide) (by decide) (by omega) (by omega)
  have hsz : Builtin.Range.rangeSize 0 (n : Int) 1 = ((n : Nat) : Int) := by rw [rangeSize_one]; split <;> omega
  refine wpAny_pyIter_range hr hsm ?_
  refine for_WR (m₀ := m₀) (news := news) J (LCg.range_walks hh 0 n) (by show IsRangeIter _ _ _ _ _; rw [hsz]; simpa using Heap.get?_push_size _ rfl) (fun i h st => ⟨_, st, rfl⟩) (Nat.ne_of_gt F.ns.lt) (next_is_new F) (fun p hp => Nat.ne_of_lt (Heap.lt_size (N p hp).1))
    (F.keeps fun _ _ e => Heap.get?_push_of_some _ e) (N.grown fun _ _ e => Heap.get?_push_of_some _ e) hj ?_ ?_
  · rintro i v m₁ news₁ h tk oI hi ⟨ti, rfl⟩ hJ hn ho F₁ N₁
    exact turn i ti m₁ news₁ _ h tk oI hi hJ hn ho (by rw [Int.zero_add] at F₁; exact F₁) N₁
  · exact fun m₁ news₁ h tk hJ F₁ N₁ => done m₁ news₁ h tk hJ F₁ N₁
end
/-- the fixed names of the law's frame -/
abbrev lBase (sz : Option Value) (sc kd pl gl kl lf tm : Addr) : Str → Option Value := fun y => if y = Str.ofString "times" then some (.ref tm) else if y = Str.ofString "life" then some (.ref lf) else if y = Str.ofString "known" then some (.ref kl) else if y = Str.ofString "grounds" then some (.ref gl) else
  if y = Str.ofString "plain" then some (.ref pl) else if y = Str.ofString "size" then sz else if y = Str.ofString "_law_kinds" then some (.ref kd) else if y = Str.ofString "script" then some (.ref sc) else none
abbrev kMap (v1 v2 v3 v4 v5 v6 v7 v8 : Option Value) (b : Str → Option Value) : Str → Option Value := fun y => if y = Str.ofString "deed" then v1 else if y = Str.ofString "kind" then v2 else if y = Str.ofString "places" then v3 else if y = Str.ofString "place" then v4 else
  if y = Str.ofString "value" then v5 else if y = Str.ofString "row" then v6 else if y = Str.ofString "higher" then v7 else if y = Str.ofString "key" then v8 else b y
theorem kMap_of {m b : Str → Option Value} (h : ∀ y, y ≠ Str.ofString "deed" → y ≠ Str.ofString "kind" → y ≠ Str.ofString "places" → y ≠ Str.ofString "place" → y ≠ Str.ofString "value" → y ≠ Str.ofString "row" → y ≠ Str.ofString "higher" → y ≠ Str.ofString "key" → m y = b y) :
    m = kMap (m (Str.ofString "deed")) (m (Str.ofString "kind")) (m (Str.ofString "places")) (m (Str.ofString "place")) (m (Str.ofString "value")) (m (Str.ofString "row")) (m (Str.ofString "higher")) (m (Str.ofString "key")) b := by
  funext y
  unfold kMap
  split; · rename_i e; rw [e]
  split; · rename_i e; rw [e]
  split; · rename_i e; rw [e]
  split; · rename_i e; rw [e]
  split; · rename_i e; rw [e]
  split; · rename_i e; rw [e]
  split; · rename_i e; rw [e]
  split; · rename_i e; rw [e]
  apply h <;> assumption
/-- the addresses of the law -/
structure LA where
  (kd tp rw gl kl lf tm pl g0 dg0 st0 ou0 kn0 g1 dg1 st1 ou1 kn1 : Addr)
/-- the rest of the law's ledger -/
structure LS (w : World) (L : Addr) (a : LA) (rvs kvs : List Value) (n : Int) (N : Led) : Prop where
  tape : TapeAt w a.tp a.rw rvs N n
  gl : LiAt N a.gl [.ref a.g0, .ref a.g1]
  kl : LiAt N a.kl [.ref a.kn0, .ref a.kn1]
  kd : LiAt N a.kd kvs
  c1 : ∃ o, (L + 1, o) ∈ N ∧ o.data = .cell (some (.ref a.tp))
  c2 : ∃ o x, (L + 1 + 1, o) ∈ N ∧ o.data = .cell x
  c3 : ∃ o x, (L + 1 + 1 + 1, o) ∈ N ∧ o.data = .cell x
abbrev LA.rs (a : LA) (L : Addr) : List Addr := [L + 1, L + 1 + 1, L + 1 + 1 + 1, a.tp, a.rw, a.gl, a.kl, a.kd]
abbrev LA.ms (a : LA) : List Addr := [a.lf, a.tm, a.st0, a.st1, a.pl, a.ou0, a.ou1, a.kn0, a.kn1, a.dg0, a.dg1]
theorem LS.keep {w : World} {L : Addr} {a : LA} {rvs kvs : List Value} {n : Int} {N N' : Led} {fp : List Addr} (R : LS w L a rvs kvs n N) (K : Keep fp N N') (h : ∀ b ∈ a.rs L, b ∉ fp) : LS w L a rvs kvs n N' where
  tape := R.tape.keep K (h _ (by simp)) (h _ (by simp))
  gl := let ⟨c, x⟩ := R.gl; ⟨c, K _ x (h _ (by simp))⟩
  kl := let ⟨c, x⟩ := R.kl; ⟨c, K _ x (h _ (by simp))⟩
  kd := let ⟨c, x⟩ := R.kd; ⟨c, K _ x (h _ (by simp))⟩
  c1 := let ⟨o, x, y⟩ := R.c1; ⟨o, K _ x (h _ (by simp)), y⟩
  c2 := let ⟨o, v, x, y⟩ := R.c2; ⟨o, v, K _ x (h _ (by simp)), y⟩
  c3 := let ⟨o, v, x, y⟩ := R.c3; ⟨o, v, K _ x (h _ (by simp)), y⟩
theorem LS.mono {w : World} {L : Addr} {a : LA} {rvs kvs : List Value} {n : Int} {N N' : Led} (R : LS w L a rvs kvs n N) (K : ∀ p ∈ N, p ∈ N') : LS w L a rvs kvs n N' := R.keep (fp := []) (fun p hp _ => K p hp) fun _ _ => List.not_mem_nil
/-- the tape is read on -/
theorem LS.read {w : World} {L : Addr} {a : LA} {rvs kvs : List Value} {n n' : Int} {N N' : Led} (R : LS w L a rvs kvs n N) (K : Keep [a.tp] N N') (h : ∀ b ∈ [L + 1, L + 1 + 1, L + 1 + 1 + 1, a.gl, a.kl, a.kd], b ≠ a.tp) (t : TapeAt w a.tp a.rw rvs N' n') : LS w L a rvs kvs n' N' where
  tape := t
  gl := let ⟨c, x⟩ := R.gl; ⟨c, K _ x (by simpa using h _ (by simp))⟩
  kl := let ⟨c, x⟩ := R.kl; ⟨c, K _ x (by simpa using h _ (by simp))⟩
  kd := let ⟨c, x⟩ := R.kd; ⟨c, K _ x (by simpa using h _ (by simp))⟩
  c1 := let ⟨o, x, y⟩ := R.c1; ⟨o, K _ x (by simpa using h _ (.head _)), y⟩
  c2 := let ⟨o, v, x, y⟩ := R.c2; ⟨o, v, K _ x (by simpa using h _ (.tail _ (.head _))), y⟩
  c3 := let ⟨o, v, x, y⟩ := R.c3; ⟨o, v, K _ x (by simpa using h _ (.tail _ (.tail _ (.head _)))), y⟩
end
section
section
variable {prog : Program} {w : World} {A : Around} {E : Value → Shared → Prop} {s : Shared} {h₀ : Heap} {L D b : Addr} {m : Str → Option Value} {news : Led} {n nb : Nat} {vs : List Value}
theorem extract_take {α : Type} (xs : Array α) (k : Nat) : xs.extract 0 (min k xs.size) ++ (#[] : Array α) ++ xs.extract xs.size xs.size = (xs.toList.take k).toArray := by
  apply Array.toList_inj.mp
  simp
/-- l[x:] = [] -/
theorem cut_L {vl : Value} {x : Int} {Q : Unit → Shared → Prop} (F : Fr h₀ L s.heap m) (N : News h₀ L s.heap news) (hD : (D, listOf vs.toArray n) ∈ news) (hb : (b, listOf #[] nb) ∈ news) (hne : D ≠ b) (pl : IsPart vl (some x)) (hx : 0 ≤ x) (hz : vs.length ≤ 1000)
    (h : ∀ h' c, Fr h₀ L h' m → News h₀ L h' ((D, listOf (vs.take x.toNat).toArray c) :: off D news) → Q () { s with heap := h' }) :
    wpAny (model prog w) A (setItem (.ref D) (.ref s.heap.objs.size) (.ref b)) Q E { s with heap := s.heap.push { cls := .type "slice", data := .fields #[vl, .none, .none] } } := by
  have F1 := F.push { cls := .type "slice", data := .fields #[vl, .none, .none] }
  have N1 : News h₀ L (s.heap.push { cls := .type "slice", data := .fields #[vl, .none, .none] }) news := N.grown fun _ _ e => Heap.get?_push_of_some _ e
  have hs := Heap.IsSliceOf.new s.heap vl .none .none
  generalize s.heap.objs.size = sl at hs
  generalize s.heap.push { cls := .type "slice", data := .fields #[vl, .none, .none] } = H at F1 N1 hs
  obtain ⟨hoD, hDL, hD0⟩ := N1 _ hD
  obtain ⟨hob, _, _⟩ := N1 _ hb
  have hl : Heap.IsList H D vs.toArray := ⟨_, hoD, rfl, n, rfl⟩
  obtain ⟨os, hos, hcs, hds⟩ := id hs
  have hTs : Shared.TypeIs { s with heap := H } (.ref sl) "slice" := ⟨os, hos, hcs⟩
  have hTl : Shared.TypeIs { s with heap := H } (.ref D) "list" := hl.typeIs (s := { s with heap := H })
  have hTb : Shared.TypeIs { s with heap := H } (.ref b) "list" := ⟨_, hob, rfl⟩
  unfold setItem
  try with_reducible refine wpAny_holding ?_
  first | refine wpAny_bind (wpAny_pure ?_) | skip
  refine wpAny_bind (wpAny_sequenceKey hTl (by decide) ?_)
  refine wpAny_bind (wpAny_callSpecial?_slot (name := Str.ofString "__setitem__") hTl slot_list_setitem
    (wpAny_call_entry slot_list_setitem hTl entry_list_setitem ?_ (args_list_setitem _ _ _)))
  show wpAny _ _ (Builtin.List.listSubscript? (.ref sl) >>= _) _ _ _
  refine wpAny_bind ?_
  unfold Builtin.List.listSubscript?
  refine wpAny_bind (wpAny_specialOf hTs slice_no_index ?_)
  simp only [Option.isNone_none, if_true]
  refine wpAny_pure ?_
  show wpAny _ _ (typeOf (.ref sl) >>= _) _ _ _
  refine wpAny_bind (wpAny_typeOf hTs ?_)
  rw [if_neg (by decide)]
  rw [listSliceParts_eq]
  refine wpAny_bind (wpAny_bind (wpAny_field (s := { s with heap := H }) hos hds (x := .none) rfl (wpAny_bind (wpAny_listPart .none ?_))))
  rw [if_neg (by exact Bool.false_ne_true)]
  refine wpAny_bind (wpAny_field (s := { s with heap := H }) hos hds (x := vl) rfl (wpAny_bind (wpAny_listPart pl ?_)))
  refine wpAny_bind (wpAny_field (s := { s with heap := H }) hos hds (x := .none) rfl (wpAny_bind (wpAny_listPart .none (wpAny_pure ?_))))
  have hsame : Builtin.List.listSameRef (.ref D) (.ref b) = false := by
    unfold Builtin.List.listSameRef
    simpa using hne
  dsimp only
  rw [if_neg (by rw [hsame]; exact Bool.false_ne_true)]
  refine wpAny_bind (m := Builtin.List.listAllItems (.ref b) _) ?_
  unfold Builtin.List.listAllItems
  refine wpAny_bind (wpAny_typeOf hTb ?_)
  rw [if_pos (by decide)]
  refine listItems_at (s := { s with heap := H }) hob rfl ?_
  refine wpAny_bind (m := Builtin.List.listItems (.ref D)) (listItems_at (s := { s with heap := H }) hoD rfl ?_)
  refine wpAny_bind (wpAny_of_eq (sliceIndices_raw (some x) none none vs.toArray.size (by simp)) ?_)
  have hbd : sliceBounds (some x) none none vs.toArray.size = (((min x.toNat vs.length : Nat) : Int), (vs.length : Int), 1) := by
    unfold sliceBounds
    simp only [List.size_toArray]
    simp
    omega
  rw [hbd]
  dsimp only
  rw [if_pos (by decide)]
  refine wpAny_bind (wpAny_rule ?_)
  rw [if_neg (by
    unfold Builtin.List.listTooLong; rw [sizeLine_eq]; simp; omega)]
  have hext : ∀ xs : Array Value, xs = vs.toArray → xs.extract 0 (((min x.toNat vs.length : Nat) : Int)).toNat ++ (#[] : Array Value) ++ xs.extract (max (((min x.toNat vs.length : Nat) : Int)) (vs.length : Int)).toNat xs.size = (vs.take x.toNat).toArray := by
    rintro xs rfl
    rw [Int.toNat_natCast, show (max (((min x.toNat vs.length : Nat) : Int)) (vs.length : Int)).toNat = vs.toArray.size by rw [List.size_toArray]; omega]
    have := extract_take vs.toArray x.toNat
    rw [List.size_toArray] at this ⊢
    exact this
  have s2 := Heap.SameBut.update H D (Obj.mapSeq fun xs => xs.extract 0 (((min x.toNat vs.length : Nat) : Int)).toNat ++ (#[] : Array Value) ++ xs.extract (max (((min x.toNat vs.length : Nat) : Int)) (vs.length : Int)).toNat xs.size)
  obtain ⟨c2, hc2⟩ : ∃ c2, (H.update D (Obj.mapSeq fun xs => xs.extract 0 (((min x.toNat vs.length : Nat) : Int)).toNat ++ (#[] : Array Value) ++ xs.extract (max (((min x.toNat vs.length : Nat) : Int)) (vs.length : Int)).toNat xs.size)).get? D = some (seqObj "list" (vs.take x.toNat).toArray c2) :=
    ⟨_, by rw [get?_update_seq hoD, hext _ rfl]⟩
  refine wpAny_bind (listUpdate_at (s := { s with heap := H }) hoD rfl ?_ (by rw [List.size_toArray, sizeLine_eq]; omega) (by rw [hext _ rfl, List.size_toArray, List.length_take, sizeLine_eq]; omega))
  refine wpAny_bind (wpAny_letGo ?_)
  refine wpAny_pure ⟨_, rfl, wpAny_pure (h _ c2 (kas_fr F1 s2 hDL hD0) fun p hp => ?_)⟩
  rcases List.mem_cons.mp hp with rfl | hp
  · exact ⟨hc2, hDL, hD0⟩
  · exact (kas_news (news := off D news) (sub N1 fun q hq => off_sub _ hq) s2 off_ne) p hp
end
end
section
/-- the state of the law between two deeds -/
structure LW (w : World) (L : Addr) (a : LA) (rvs kvs : List Value) (i : Nat) (N : Led) (tms : Int → Int) (nt : Nat) (vals : List Value) (ns : List Int) (ups0 ups1 : List Up) (kx0 kx1 : List Kn) (lx : List En) (n : Int) : Prop where
  W : Two w tms nt a.g0 a.dg0 a.st0 a.ou0 a.kn0 a.g1 a.dg1 a.st1 a.ou1 a.kn1 a.lf a.pl a.tm vals ns N ups0 ups1 kx0 kx1 lx
  R : LS w L a rvs kvs n N
  D : ∀ b ∈ a.rs L, b ∉ a.ms ∧ ∀ k ∈ kx0 ++ kx1, k.d ≠ b
  nd : (a.rs L).Nodup
  b1 : 1 ≤ vals.length ∧ vals.length ≤ 6 + i
  b2 : kx0.length ≤ 3 * i ∧ kx1.length ≤ 3 * i ∧ lx.length ≤ 3 * i
  b3 : nt ≤ 64 * i
section
variable {w : World} {L : Addr} {a : LA} {rvs kvs : List Value} {i : Nat} {N N' : Led} {tms : Int → Int} {nt : Nat} {vals : List Value} {ns : List Int} {ups0 ups1 : List Up} {kx0 kx1 : List Kn} {lx : List En} {n n' : Int} {h₀ h : Heap} {Lf : Addr}
theorem LW.mono (X : LW w L a rvs kvs i N tms nt vals ns ups0 ups1 kx0 kx1 lx n) (s : ∀ p ∈ N, p ∈ N') : LW w L a rvs kvs i N' tms nt vals ns ups0 ups1 kx0 kx1 lx n := ⟨X.W.mono s, X.R.mono s, X.D, X.nd, X.b1, X.b2, X.b3⟩
theorem LA.nd8 {a : LA} {L : Addr} (h : (a.rs L).Nodup) : (∀ b ∈ [L + 1, L + 1 + 1, L + 1 + 1 + 1, a.gl, a.kl, a.kd], b ≠ a.tp) ∧ (∀ b ∈ [L + 1, L + 1 + 1 + 1, a.tp, a.rw, a.gl, a.kl, a.kd], b ≠ L + 1 + 1) ∧ ∀ b ∈ [L + 1, L + 1 + 1, a.tp, a.rw, a.gl, a.kl, a.kd], b ≠ L + 1 + 1 + 1 := by
  unfold LA.rs at h
  simp only [List.nodup_cons, List.mem_cons, List.not_mem_nil, or_false, not_or] at h
  obtain ⟨h1, h2, h3, h4, h5, _⟩ := h
  refine ⟨fun b hb => ?_, fun b hb => ?_, fun b hb => ?_⟩
  · simp only [List.mem_cons, List.not_mem_nil, or_false] at hb
    rcases hb with rfl | rfl | rfl | rfl | rfl | rfl
    · exact h1.2.2.1
    · exact h2.2.1
    · exact h3.1
    · exact Ne.symm h4.2.1
    · exact Ne.symm h4.2.2.1
    · exact Ne.symm h4.2.2.2
  · simp only [List.mem_cons, List.not_mem_nil, or_false] at hb
    rcases hb with rfl | rfl | rfl | rfl | rfl | rfl | rfl
    · exact h1.1
    · exact Ne.symm h2.1
    · exact Ne.symm h2.2.1
    · exact Ne.symm h2.2.2.1
    · exact Ne.symm h2.2.2.2.1
    · exact Ne.symm h2.2.2.2.2.1
    · exact Ne.symm h2.2.2.2.2.2
  · simp only [List.mem_cons, List.not_mem_nil, or_false] at hb
    rcases hb with rfl | rfl | rfl | rfl | rfl | rfl | rfl
    · exact h1.2.1
    · exact h2.1
    · exact Ne.symm h3.1
    · exact Ne.symm h3.2.1
    · exact Ne.symm h3.2.2.1
    · exact Ne.symm h3.2.2.2.1
    · exact Ne.symm h3.2.2.2.2
/-- numbers are read from the tape -/
theorem LW.read (X : LW w L a rvs kvs i N tms nt vals ns ups0 ups1 kx0 kx1 lx n) (nw : News h₀ Lf h N) (S : Step [a.tp] N N') (t : TapeAt w a.tp a.rw rvs N' n') : LW w L a rvs kvs i N' tms nt vals ns ups0 ups1 kx0 kx1 lx n' := by
  obtain ⟨o, tn, k, t1, t2, t3⟩ := X.R.tape
  have d := X.D a.tp (by simp)
  have dm := d.1
  simp only [LA.ms, List.mem_cons, List.not_mem_nil, or_false, not_or] at dm
  refine ⟨X.W.keep1 nw S.keep t1 (IsDictOf.mk1 t2) ?_ d.2, X.R.read S.keep (LA.nd8 X.nd).1 t, X.D, X.nd, X.b1, X.b2, X.b3⟩
  simp only [List.mem_cons, List.not_mem_nil, or_false, not_or]
  exact ⟨dm.2.2.2.2.2.2.2.2.2.1, dm.2.2.2.2.2.2.2.2.2.2, dm.2.2.2.2.2.2.2.1, dm.2.2.2.2.2.2.2.2.1, dm.1, dm.2.1⟩
/-- the cell of top is set -/
theorem LW.cell2 (X : LW w L a rvs kvs i N tms nt vals ns ups0 ups1 kx0 kx1 lx n) (nw : News h₀ Lf h N) {oc o' : Obj} {v v' : Option Value} (hc : (L + 1 + 1, oc) ∈ N) (hd : oc.data = .cell v) (hd' : o'.data = .cell v') : LW w L a rvs kvs i ((L + 1 + 1, o') :: off (L + 1 + 1) N) tms nt vals ns ups0 ups1 kx0 kx1 lx n := by
  have s := subN_cell (oc' := o') nw hc (nice_cell hd)
  have nd := (LA.nd8 X.nd).2.1
  refine ⟨X.W.nic s, ⟨X.R.tape.nic s, X.R.gl.nic s, X.R.kl.nic s, X.R.kd.nic s, ?_, ⟨o', v', .head _, hd'⟩, ?_⟩, X.D, X.nd, X.b1, X.b2, X.b3⟩
  · obtain ⟨o, h1, h2⟩ := X.R.c1
    exact ⟨o, .tail _ (mem_off_of h1 (nd _ (.head _))), h2⟩
  · obtain ⟨o, x, h1, h2⟩ := X.R.c3
    exact ⟨o, x, .tail _ (mem_off_of h1 (nd _ (.tail _ (.head _)))), h2⟩
theorem LW.cell3 (X : LW w L a rvs kvs i N tms nt vals ns ups0 ups1 kx0 kx1 lx n) (nw : News h₀ Lf h N) {oc o' : Obj} {v v' : Option Value} (hc : (L + 1 + 1 + 1, oc) ∈ N) (hd : oc.data = .cell v) (hd' : o'.data = .cell v') : LW w L a rvs kvs i ((L + 1 + 1 + 1, o') :: off (L + 1 + 1 + 1) N) tms nt vals ns ups0 ups1 kx0 kx1 lx n := by
  have s := subN_cell (oc' := o') nw hc (nice_cell hd)
  have nd := (LA.nd8 X.nd).2.2
  refine ⟨X.W.nic s, ⟨X.R.tape.nic s, X.R.gl.nic s, X.R.kl.nic s, X.R.kd.nic s, ?_, ?_, ⟨o', v', .head _, hd'⟩⟩, X.D, X.nd, X.b1, X.b2, X.b3⟩
  · obtain ⟨o, h1, h2⟩ := X.R.c1
    exact ⟨o, .tail _ (mem_off_of h1 (nd _ (.head _))), h2⟩
  · obtain ⟨o, x, h1, h2⟩ := X.R.c2
    exact ⟨o, x, .tail _ (mem_off_of h1 (nd _ (.tail _ (.head _)))), h2⟩
/-- the iterator is laid aside -/
theorem LW.offI (X : LW w L a rvs kvs i N tms nt vals ns ups0 ups1 kx0 kx1 lx n) (nw : News h₀ Lf h N) {I : Addr} {oI : Obj} (hI : (I, oI) ∈ N) (hn : nice oI = false) (hc : I ≠ L + 1 ∧ I ≠ L + 1 + 1 ∧ I ≠ L + 1 + 1 + 1) : LW w L a rvs kvs i (off I N) tms nt vals ns ups0 ups1 kx0 kx1 lx n := by
  have s := subN_off nw hI hn
  refine ⟨X.W.nic s, ⟨X.R.tape.nic s, X.R.gl.nic s, X.R.kl.nic s, X.R.kd.nic s, ?_, ?_, ?_⟩, X.D, X.nd, X.b1, X.b2, X.b3⟩
  · obtain ⟨o, h1, h2⟩ := X.R.c1
    exact ⟨o, mem_off_of h1 (Ne.symm hc.1), h2⟩
  · obtain ⟨o, x, h1, h2⟩ := X.R.c2
    exact ⟨o, x, mem_off_of h1 (Ne.symm hc.2.1), h2⟩
  · obtain ⟨o, x, h1, h2⟩ := X.R.c3
    exact ⟨o, x, mem_off_of h1 (Ne.symm hc.2.2), h2⟩
/-- the rest of the ledger, where the state's own objects alone are changed -/
theorem LW.rest (X : LW w L a rvs kvs i N tms nt vals ns ups0 ups1 kx0 kx1 lx n) {fp : List Addr} (K : Keep fp N N') (hf : ∀ b ∈ fp, b ∈ a.ms ∨ ∃ k ∈ kx0 ++ kx1, k.d = b) : LS w L a rvs kvs n N' := X.R.keep K fun b hb hx => by
  have d := X.D b hb
  rcases hf b hx with h | ⟨k, h1, h2⟩
  · exact d.1 h
  · exact d.2 k h1 h2
theorem LS.has {a : LA} (R : LS w L a rvs kvs n N) : ∀ b ∈ a.rs L, ∃ o, (b, o) ∈ N := fun b hb => by
  obtain ⟨o1, _, _, t1, _, t3⟩ := R.tape
  obtain ⟨_, g⟩ := R.gl
  obtain ⟨_, k⟩ := R.kl
  obtain ⟨_, d⟩ := R.kd
  obtain ⟨_, c1, _⟩ := R.c1
  obtain ⟨_, _, c2, _⟩ := R.c2
  obtain ⟨_, _, c3, _⟩ := R.c3
  simp only [LA.rs, List.mem_cons, List.not_mem_nil, or_false] at hb
  rcases hb with rfl | rfl | rfl | rfl | rfl | rfl | rfl | rfl
  · exact ⟨_, c1⟩
  · exact ⟨_, c2⟩
  · exact ⟨_, c3⟩
  · exact ⟨_, t1⟩
  · exact ⟨_, t3⟩
  · exact ⟨_, g⟩
  · exact ⟨_, k⟩
  · exact ⟨_, d⟩
end
theorem TapeAt.off1 {w : World} {tp rw I : Addr} {rvs : List Value} {N : Led} {n : Int} (t : TapeAt w tp rw rvs N n) (h1 : tp ≠ I) (h2 : rw ≠ I) : TapeAt w tp rw rvs (off I N) n := let ⟨o, tn, k, a, b, c⟩ := t; ⟨o, tn, k, mem_off_of a h1, b, mem_off_of c h2⟩
theorem tape_turn {w : World} {tp rw I C D : Addr} {rvs : List Value} {N N' : Led} {n n' : Int} (t : TapeAt w tp rw rvs N n) (ho : ∀ p ∈ N, p.1 ≠ I ∧ p.1 ≠ C ∧ p.1 ≠ D) (t' : TapeAt w tp rw rvs N' n') : TapeAt w tp rw rvs (off I (off C (off D N'))) n' := by
  obtain ⟨_, _, _, a, _, c⟩ := t
  have h1 := ho _ a
  have h2 := ho _ c
  exact ((t'.off1 h1.2.2 h2.2.2).off1 h1.2.1 h2.2.1).off1 h1.1 h2.1
end
section
theorem news4 {P : Params} {h₀ h : Heap} {L x dx ou st : Addr} {k1 k2 k3 k4 : Tok} {k : Nat} {o1 o2 o3 : Obj} {rest : Led}
    (N : News h₀ L h ((ou, o1) :: (st, o2) :: (x, o3) :: (dx, dictOf [⟨PyData.keyHash P (Str.ofString "stack"), .str (Str.ofString "stack") k1, .ref st⟩, ⟨PyData.keyHash P (Str.ofString "open_upvals"), .str (Str.ofString "open_upvals") k2, .ref ou⟩,
      ⟨PyData.keyHash P (Str.ofString "answers"), .str (Str.ofString "answers") k3, .none⟩, ⟨PyData.keyHash P (Str.ofString "is_over"), .str (Str.ofString "is_over") k4, .bool false⟩] k) :: rest)) :
    News h₀ L h ((x, o3) :: (dx, dictOf (grEs P ⟨k1, k2, k3, k4⟩ st ou) k) :: (st, o2) :: (ou, o1) :: rest) := sub N fun p hp => by
  rcases List.mem_cons.mp hp with rfl | hp
  · exact .tail _ (.tail _ (.head _))
  rcases List.mem_cons.mp hp with rfl | hp
  · exact .tail _ (.tail _ (.tail _ (.head _)))
  rcases List.mem_cons.mp hp with rfl | hp
  · exact .tail _ (.head _)
  rcases List.mem_cons.mp hp with rfl | hp
  · exact .head _
  · exact .tail _ (.tail _ (.tail _ (.tail _ hp)))
theorem lay_MGround : True := by
  k_with_none
  k_with "exec While" => refine stop ?_
  k_with "Back" => refine stop ?_
  k_with "WhileStep" => refine stop ?_
  k_with "call builtin:len" => (k_here; (with_reducible show wpAny _ _ (call (Value.builtin "len") [Value.ref _]) _ _ _); k_dflt (refine' len_L (by k_asm) (by k_mem) (by first | exact List.length_map _ | exact rfl) (by omega) ?_); intro _ _)
  k_with "subscriptTail" => (k_here; (with_reducible show wpAny _ _ (subscriptTail _ _ (Value.ref _) (Value.int _ _)) _ _ _); k_dflt (refine' item_L (by k_asm) (by k_mem) (by first | exact at_refs (by assumption) | assumption | exact rfl) (by omega) ?_ (by with_unfolding_all rfl)))
  k_with "call builtin:list.insert" => (k_here; (with_reducible show wpAny _ _ (call (Value.builtin _) [Value.ref _, Value.int _ _, _]) _ _ _); k_dflt (refine' insert_L (by k_asm) (by k_asm) ?_ ?_ (by k_upd) ?_; (first | assumption | (simp only [List.length_map]; first | assumption | omega)); (simp only [List.length_map]; omega)); intro _ _ _; (try k_sweep))
  k_with "call builtin:list.pop" => (k_here; (with_reducible show wpAny _ _ (call (Value.builtin _) [Value.ref _, Value.int _ _]) _ _ _); k_dflt (refine' pop0_L (by k_asm) (by k_asm) ?_ (by k_upd) ?_; (simp only [List.length_map]; omega)); intro _ _ _; (try k_sweep))
  k_with "call builtin:list.append" => (k_here; (with_reducible show wpAny _ _ (call (Value.builtin _) [Value.ref _, _]) _ _ _); k_dflt (refine' append_L (by k_asm) (by k_asm) ?_ (by k_upd) ?_; (first | omega | (simp only [List.length_map]; omega) | (simp; omega))); intro _ _ _; (try k_sweep))
  k_with "setAttr ref" => (k_here; k_dflt (refine' set_dict (by k_asm) (by k_asm) (by k_asm) (by k_inst) (by exact rfl) (by k_is) (by k_is) (by k_is) (by k_is) (by k_get) (by first | exact put_value | exact put_thread | exact put_index) (by k_upd) (by exact Nat.le_of_ble_eq_true rfl) ?_; k_whole; intro _ _ _; (try k_sweep)))
  k_with "setItem ref int" => (k_here; (with_reducible show wpAny _ _ (setItem (Value.ref _) (Value.int _ _) _) _ _ _); k_dflt (refine' set_L (by k_asm) (by k_asm) (by k_upd) (by first | assumption | omega | (constructor <;> omega)) (by first | omega | (simp only [List.length_map]; omega)) ?_); intro _ _ _; (try k_sweep))
  k_with "exec For Name Attribute cons nil" => refine stop ?_
  k_with "exec For Name Name cons nil" => refine stop ?_
  k_with "TurnE" => refine stop ?_
  k_with "call type:list" => refine stop ?_
  trivial
section
variable {w : World} {loose : List Str} {mean : ExcName → Option Value} {mg mb : Str → Option Value} {dp un : Nat} {gd : Option (List Code)} {cn : Str} {cs : Scope} {a : Addr} {ccd : Value} {cl : List (Str × Addr)} {outer : List Env} {A₀ : Around} {base h₀ : Heap} {L : Addr} {m : Str → Option Value} {s : Shared} {Q E : Value → Shared → Prop} {news : Led}
theorem ground_spec {pl : Addr} {vals : List Value} {n : Nat}
    (B : Below A₀ base outer h₀) (F : Fr h₀ L s.heap m) (X : (Mine.Hd.top.heap_1 w.params).In h₀) (N : News h₀ L s.heap news) (T : Top VW loose mean mg mb h₀) (hk : cs.kind = .function) (hd : dp ≤ 450) (hu : un ≤ 500)
    (hm : (pl, listOf vals.toArray n) ∈ news) (hlen : vals.length ≤ 100)
    (post : ∀ g dg st ou τ k c h' tk', Fr h₀ L h' m → News h₀ L h' ((g, instObj 100 dg) :: (dg, dictOf (grEs w.params τ st ou) k) :: (st, listOf vals.toArray c) :: (ou, listOf #[] 0) :: news) → (∀ q ∈ news, q.1 < g ∧ q.1 < dg ∧ q.1 < st ∧ q.1 < ou) → st ≠ ou → Q (.ref g) { s with heap := h', toks := tk' }) :
    wpAny (model prog w) (ktrTop dp un gd cn cs L a ccd cl outer) (call (.ref 100) [.ref pl]) Q E s := by
  refine call_cls (K := Mine.Hd.top.heap_1 w.params) (C := 100) (fI := 97) F X N (by k_is) (by k_is) (by k_is) fun x dx h2 F2 N2 l1 l2 => ?_
  refine code_def (f := 97) (binds := [(Str.ofString "self", .ref x), (Str.ofString "values", .ref pl)]) B F2 X N2 T rfl rfl hk (by k_is) (by k_is) (room_lt (by simp only [depth_under_make]; omega)) (BindsTo.of_eq (by rfl)) (by exact locs rfl) (fun g L' h₁ FG F3 N3 B' X' T' => ?_) (by rfl) (by rfl) (by rfl) (by decide)
  have lx : ∀ q ∈ news, q.1 < x := fun q hq => Nat.lt_trans (l1 q hq) l2
  have l1c := l1
  have l2c := l2
  have ndx : ∀ p ∈ news, p.1 ≠ dx := fun p hp => Nat.ne_of_lt (l1c p hp)
  have l2n : @LT.lt Nat _ dx x := l2
  clear l2
  clear F N F2 N2 FG
  have hm3 : (pl, listOf vals.toArray n) ∈ (x, instObj 100 dx) :: (dx, dictOf [] 0) :: news := .tail _ (.tail _ hm)
  k_steps
  refine go (list_copyK F3 N3 (isList N3 hm3) (fun st c h4 F4 N4 l4 => ?_) (by rw [List.size_toArray, sizeLine_eq]; omega))
  clear F3 N3
  have lst : ∀ q ∈ news, q.1 < st := fun q hq => l4 q (.tail _ (.tail _ hq))
  have lst2 := l4 _ (.head _)
  have lst3 := l4 _ (.tail _ (.head _))
  dsimp only at lst2 lst3
  k_lt l4
  k_steps
  rename_i h5 tk5 ou h6 l5 h7 h8 h9 F9 N9 kF kN Tc kX
  exact post x dx st ou _ _ c _ _ kF (news4 kN) (fun q hq => ⟨lx q hq, l1c q hq, lst q hq, allLt_lt l5.2.2.2 q hq⟩) (Nat.ne_of_lt l5.1)
end
end
section
section
variable {w : World} {g dg st ou kn lf pl : Addr} {vals : List Value} {ns : List Int} {N : Led}
theorem IsTab.of_dict {K : Type} [DecidableEq K] {knd : KeyKind prog w K} {o : Obj} (h : o.IsDictOf knd []) : IsTab prog w o [] := by
  obtain ⟨es, ep, hc, hd, _, hp, _⟩ := h
  refine ⟨es, ep, hc, hd, ?_, List.nodup_nil⟩
  have : es.toList = [] := by
    generalize es.toList = l at hp
    cases l with
    | nil => rfl
    | cons x r => cases hp
  simpa using this
theorem TimesObj.of_dict {o : Obj} (h : o.IsDictOf (intKind prog w) []) : TimesObj prog w o 0 fun _ => 0 := ⟨[], h, Nat.le_refl _, fun _ => .inl ⟨rfl, rfl⟩⟩
theorem HI.init (gr : GrAt w.params N g dg st ou) (li : LiAt N ou []) (kt : ∃ o, TabAt prog w N kn o []) (lt : ∃ o, TabAt prog w N lf o []) (stk : LiAt N st vals) (pln : LiAt N pl vals) (iv : IntsAre vals ns) (hl : vals.length ≤ 60) (ne : st ≠ ou) (a1 : kn ≠ lf) (a2 : dg ≠ kn ∧ dg ≠ lf) :
    HI w (fun _ => 0) g dg st ou kn lf pl vals ns N [] [] [] where
  fi := ⟨gr, li, fun _ h => (nomatch h), kt, lt, fun _ h => (nomatch h), fun _ h => (nomatch h), .nil, fun _ h => (nomatch h), hl, Nat.zero_le _, Nat.zero_le _, fun _ h => (nomatch h), List.nodup_nil, fun _ h => (nomatch h), a1, a2, fun _ h => (nomatch h), fun _ h => (nomatch h)⟩
  stk := stk
  pln := pln
  iv := iv
  nd := List.nodup_nil
  ne := ne
  opn := fun _ h => (nomatch h)
  ex := fun _ h => (nomatch h)
  all := fun _ h => (nomatch h)
  le := fun _ h => (nomatch h)
end
/-- a number in a nested choice of names -/
theorem nd_lt {l : List Addr} (h : l.Pairwise (· < ·)) : l.Nodup := h.imp fun h => Nat.ne_of_lt h
theorem init_nums {L kd tp rw pl g0 dg0 st0 ou0 g1 dg1 st1 ou1 gl kn0 kn1 kl lf tm : Nat} (a : L + 1 + 1 + 1 < kd) (b : kd < tp) (c : tp < rw)
    (q1 : pl < g0 ∧ pl < dg0 ∧ pl < st0 ∧ pl < ou0) (q2 : L + 1 < g0 ∧ L + 1 < dg0 ∧ L + 1 < st0 ∧ L + 1 < ou0) (q3 : L + 1 + 1 < g0 ∧ L + 1 + 1 < dg0 ∧ L + 1 + 1 < st0 ∧ L + 1 + 1 < ou0) (q4 : L + 1 + 1 + 1 < g0 ∧ L + 1 + 1 + 1 < dg0 ∧ L + 1 + 1 + 1 < st0 ∧ L + 1 + 1 + 1 < ou0)
    (q5 : kd < g0 ∧ kd < dg0 ∧ kd < st0 ∧ kd < ou0) (q6 : tp < g0 ∧ tp < dg0 ∧ tp < st0 ∧ tp < ou0) (q7 : rw < g0 ∧ rw < dg0 ∧ rw < st0 ∧ rw < ou0)
    (r2 : dg0 < g1 ∧ dg0 < dg1 ∧ dg0 < st1 ∧ dg0 < ou1) (r3 : st0 < g1 ∧ st0 < dg1 ∧ st0 < st1 ∧ st0 < ou1) (r4 : ou0 < g1 ∧ ou0 < dg1 ∧ ou0 < st1 ∧ ou0 < ou1) (r5 : pl < g1 ∧ pl < dg1 ∧ pl < st1 ∧ pl < ou1)
    (n1 : pl ≠ tp) (n2 : pl ≠ rw) (n3 : pl ≠ kd) (n4 : pl ≠ L + 1) (n5 : pl ≠ L + 1 + 1) (n6 : pl ≠ L + 1 + 1 + 1) (e0 : st0 ≠ ou0) (e1 : st1 ≠ ou1)
    (t1 : dg1 < gl) (t2 : st1 < gl) (t3 : ou1 < gl) (s1 : gl < kn0) (s2 : kn0 < kn1) (s3 : kn1 < kl) (s4 : kl < lf) (s5 : lf < tm) :
    [dg0, dg1, kn0, kn1, lf, tm].Nodup ∧ [st0, st1, pl, ou0, ou1].Nodup ∧ [L + 1, L + 1 + 1, L + 1 + 1 + 1, tp, rw, gl, kl, kd].Nodup ∧ (∀ b ∈ [L + 1, L + 1 + 1, L + 1 + 1 + 1, tp, rw, gl, kl, kd], b ∉ [lf, tm, st0, st1, pl, ou0, ou1, kn0, kn1, dg0, dg1]) ∧
      kn0 ≠ lf ∧ kn1 ≠ lf ∧ (dg0 ≠ kn0 ∧ dg0 ≠ lf) ∧ (dg1 ≠ kn1 ∧ dg1 ≠ lf) := by
  refine ⟨?_, ?_, ?_, ?_, Nat.ne_of_lt (Nat.lt_trans (Nat.lt_trans (s2) (s3)) (s4)), Nat.ne_of_lt (Nat.lt_trans (s3) (s4)), ⟨Nat.ne_of_lt (Nat.lt_trans (Nat.lt_trans (r2.2.1) (t1)) (s1)), Nat.ne_of_lt (Nat.lt_trans (Nat.lt_trans (Nat.lt_trans (Nat.lt_trans (Nat.lt_trans (r2.2.1) (t1)) (s1)) (s2)) (s3)) (s4))⟩, Nat.ne_of_lt (Nat.lt_trans (Nat.lt_trans (t1) (s1)) (s2)), Nat.ne_of_lt (Nat.lt_trans (Nat.lt_trans (Nat.lt_trans (Nat.lt_trans (t1) (s1)) (s2)) (s3)) (s4))⟩
  · simp only [List.nodup_cons, List.mem_cons, List.not_mem_nil, or_false, not_or, List.nodup_nil, not_false_iff, and_true]
    exact ⟨⟨Nat.ne_of_lt (r2.2.1), Nat.ne_of_lt (Nat.lt_trans (Nat.lt_trans (r2.2.1) (t1)) (s1)), Nat.ne_of_lt (Nat.lt_trans (Nat.lt_trans (Nat.lt_trans (r2.2.1) (t1)) (s1)) (s2)), Nat.ne_of_lt (Nat.lt_trans (Nat.lt_trans (Nat.lt_trans (Nat.lt_trans (Nat.lt_trans (r2.2.1) (t1)) (s1)) (s2)) (s3)) (s4)), Nat.ne_of_lt (Nat.lt_trans (Nat.lt_trans (Nat.lt_trans (Nat.lt_trans (Nat.lt_trans (Nat.lt_trans (r2.2.1) (t1)) (s1)) (s2)) (s3)) (s4)) (s5))⟩, ⟨Nat.ne_of_lt (Nat.lt_trans (t1) (s1)), Nat.ne_of_lt (Nat.lt_trans (Nat.lt_trans (t1) (s1)) (s2)), Nat.ne_of_lt (Nat.lt_trans (Nat.lt_trans (Nat.lt_trans (Nat.lt_trans (t1) (s1)) (s2)) (s3)) (s4)), Nat.ne_of_lt (Nat.lt_trans (Nat.lt_trans (Nat.lt_trans (Nat.lt_trans (Nat.lt_trans (t1) (s1)) (s2)) (s3)) (s4)) (s5))⟩, ⟨Nat.ne_of_lt (s2), Nat.ne_of_lt (Nat.lt_trans (Nat.lt_trans (s2) (s3)) (s4)), Nat.ne_of_lt (Nat.lt_trans (Nat.lt_trans (Nat.lt_trans (s2) (s3)) (s4)) (s5))⟩, ⟨Nat.ne_of_lt (Nat.lt_trans (s3) (s4)), Nat.ne_of_lt (Nat.lt_trans (Nat.lt_trans (s3) (s4)) (s5))⟩, Nat.ne_of_lt (s5)⟩
  · simp only [List.nodup_cons, List.mem_cons, List.not_mem_nil, or_false, not_or, List.nodup_nil, not_false_iff, and_true]
    exact ⟨⟨Nat.ne_of_lt (r3.2.2.1), Nat.ne_of_gt (q1.2.2.1), e0, Nat.ne_of_lt (r3.2.2.2)⟩, ⟨Nat.ne_of_gt (r5.2.2.1), Nat.ne_of_gt (r4.2.2.1), e1⟩, ⟨Nat.ne_of_lt (q1.2.2.2), Nat.ne_of_lt (r5.2.2.2)⟩, Nat.ne_of_lt (r4.2.2.2)⟩
  · simp only [List.nodup_cons, List.mem_cons, List.not_mem_nil, or_false, not_or, List.nodup_nil, not_false_iff, and_true]
    exact ⟨⟨Nat.ne_of_lt (Nat.lt_succ_self _), Nat.ne_of_lt (Nat.lt_trans (Nat.lt_succ_self _) (Nat.lt_succ_self _)), Nat.ne_of_lt (Nat.lt_trans (Nat.lt_trans (Nat.lt_trans (Nat.lt_succ_self _) (Nat.lt_succ_self _)) (a)) (b)), Nat.ne_of_lt (Nat.lt_trans (Nat.lt_trans (Nat.lt_trans (Nat.lt_trans (Nat.lt_succ_self _) (Nat.lt_succ_self _)) (a)) (b)) (c)), Nat.ne_of_lt (Nat.lt_trans (Nat.lt_trans (q2.2.1) (r2.2.1)) (t1)), Nat.ne_of_lt (Nat.lt_trans (Nat.lt_trans (Nat.lt_trans (Nat.lt_trans (Nat.lt_trans (q2.2.1) (r2.2.1)) (t1)) (s1)) (s2)) (s3)), Nat.ne_of_lt (Nat.lt_trans (Nat.lt_trans (Nat.lt_succ_self _) (Nat.lt_succ_self _)) (a))⟩, ⟨Nat.ne_of_lt (Nat.lt_succ_self _), Nat.ne_of_lt (Nat.lt_trans (Nat.lt_trans (Nat.lt_succ_self _) (a)) (b)), Nat.ne_of_lt (Nat.lt_trans (Nat.lt_trans (Nat.lt_trans (Nat.lt_succ_self _) (a)) (b)) (c)), Nat.ne_of_lt (Nat.lt_trans (Nat.lt_trans (q3.2.1) (r2.2.1)) (t1)), Nat.ne_of_lt (Nat.lt_trans (Nat.lt_trans (Nat.lt_trans (Nat.lt_trans (Nat.lt_trans (q3.2.1) (r2.2.1)) (t1)) (s1)) (s2)) (s3)), Nat.ne_of_lt (Nat.lt_trans (Nat.lt_succ_self _) (a))⟩, ⟨Nat.ne_of_lt (Nat.lt_trans (a) (b)), Nat.ne_of_lt (Nat.lt_trans (Nat.lt_trans (a) (b)) (c)), Nat.ne_of_lt (Nat.lt_trans (Nat.lt_trans (q4.2.1) (r2.2.1)) (t1)), Nat.ne_of_lt (Nat.lt_trans (Nat.lt_trans (Nat.lt_trans (Nat.lt_trans (Nat.lt_trans (q4.2.1) (r2.2.1)) (t1)) (s1)) (s2)) (s3)), Nat.ne_of_lt (a)⟩, ⟨Nat.ne_of_lt (c), Nat.ne_of_lt (Nat.lt_trans (Nat.lt_trans (q6.2.1) (r2.2.1)) (t1)), Nat.ne_of_lt (Nat.lt_trans (Nat.lt_trans (Nat.lt_trans (Nat.lt_trans (Nat.lt_trans (q6.2.1) (r2.2.1)) (t1)) (s1)) (s2)) (s3)), Nat.ne_of_gt (b)⟩, ⟨Nat.ne_of_lt (Nat.lt_trans (Nat.lt_trans (q7.2.1) (r2.2.1)) (t1)), Nat.ne_of_lt (Nat.lt_trans (Nat.lt_trans (Nat.lt_trans (Nat.lt_trans (Nat.lt_trans (q7.2.1) (r2.2.1)) (t1)) (s1)) (s2)) (s3)), Nat.ne_of_gt (Nat.lt_trans (b) (c))⟩, ⟨Nat.ne_of_lt (Nat.lt_trans (Nat.lt_trans (s1) (s2)) (s3)), Nat.ne_of_gt (Nat.lt_trans (Nat.lt_trans (q5.2.1) (r2.2.1)) (t1))⟩, Nat.ne_of_gt (Nat.lt_trans (Nat.lt_trans (Nat.lt_trans (Nat.lt_trans (Nat.lt_trans (q5.2.1) (r2.2.1)) (t1)) (s1)) (s2)) (s3))⟩
  · intro b hb
    simp only [List.mem_cons, List.not_mem_nil, or_false, not_or] at hb ⊢
    rcases hb with rfl | rfl | rfl | rfl | rfl | rfl | rfl | rfl
    · exact ⟨Nat.ne_of_lt (Nat.lt_trans (Nat.lt_trans (Nat.lt_trans (Nat.lt_trans (Nat.lt_trans (Nat.lt_trans (q2.2.1) (r2.2.1)) (t1)) (s1)) (s2)) (s3)) (s4)), Nat.ne_of_lt (Nat.lt_trans (Nat.lt_trans (Nat.lt_trans (Nat.lt_trans (Nat.lt_trans (Nat.lt_trans (Nat.lt_trans (q2.2.1) (r2.2.1)) (t1)) (s1)) (s2)) (s3)) (s4)) (s5)), Nat.ne_of_lt (q2.2.2.1), Nat.ne_of_lt (Nat.lt_trans (q2.2.1) (r2.2.2.1)), Ne.symm n4, Nat.ne_of_lt (q2.2.2.2), Nat.ne_of_lt (Nat.lt_trans (q2.2.1) (r2.2.2.2)), Nat.ne_of_lt (Nat.lt_trans (Nat.lt_trans (Nat.lt_trans (q2.2.1) (r2.2.1)) (t1)) (s1)), Nat.ne_of_lt (Nat.lt_trans (Nat.lt_trans (Nat.lt_trans (Nat.lt_trans (q2.2.1) (r2.2.1)) (t1)) (s1)) (s2)), Nat.ne_of_lt (q2.2.1), Nat.ne_of_lt (Nat.lt_trans (q2.2.1) (r2.2.1))⟩
    · exact ⟨Nat.ne_of_lt (Nat.lt_trans (Nat.lt_trans (Nat.lt_trans (Nat.lt_trans (Nat.lt_trans (Nat.lt_trans (q3.2.1) (r2.2.1)) (t1)) (s1)) (s2)) (s3)) (s4)), Nat.ne_of_lt (Nat.lt_trans (Nat.lt_trans (Nat.lt_trans (Nat.lt_trans (Nat.lt_trans (Nat.lt_trans (Nat.lt_trans (q3.2.1) (r2.2.1)) (t1)) (s1)) (s2)) (s3)) (s4)) (s5)), Nat.ne_of_lt (q3.2.2.1), Nat.ne_of_lt (Nat.lt_trans (q3.2.1) (r2.2.2.1)), Ne.symm n5, Nat.ne_of_lt (q3.2.2.2), Nat.ne_of_lt (Nat.lt_trans (q3.2.1) (r2.2.2.2)), Nat.ne_of_lt (Nat.lt_trans (Nat.lt_trans (Nat.lt_trans (q3.2.1) (r2.2.1)) (t1)) (s1)), Nat.ne_of_lt (Nat.lt_trans (Nat.lt_trans (Nat.lt_trans (Nat.lt_trans (q3.2.1) (r2.2.1)) (t1)) (s1)) (s2)), Nat.ne_of_lt (q3.2.1), Nat.ne_of_lt (Nat.lt_trans (q3.2.1) (r2.2.1))⟩
    · exact ⟨Nat.ne_of_lt (Nat.lt_trans (Nat.lt_trans (Nat.lt_trans (Nat.lt_trans (Nat.lt_trans (Nat.lt_trans (q4.2.1) (r2.2.1)) (t1)) (s1)) (s2)) (s3)) (s4)), Nat.ne_of_lt (Nat.lt_trans (Nat.lt_trans (Nat.lt_trans (Nat.lt_trans (Nat.lt_trans (Nat.lt_trans (Nat.lt_trans (q4.2.1) (r2.2.1)) (t1)) (s1)) (s2)) (s3)) (s4)) (s5)), Nat.ne_of_lt (q4.2.2.1), Nat.ne_of_lt (Nat.lt_trans (q4.2.1) (r2.2.2.1)), Ne.symm n6, Nat.ne_of_lt (q4.2.2.2), Nat.ne_of_lt (Nat.lt_trans (q4.2.1) (r2.2.2.2)), Nat.ne_of_lt (Nat.lt_trans (Nat.lt_trans (Nat.lt_trans (q4.2.1) (r2.2.1)) (t1)) (s1)), Nat.ne_of_lt (Nat.lt_trans (Nat.lt_trans (Nat.lt_trans (Nat.lt_trans (q4.2.1) (r2.2.1)) (t1)) (s1)) (s2)), Nat.ne_of_lt (q4.2.1), Nat.ne_of_lt (Nat.lt_trans (q4.2.1) (r2.2.1))⟩
    · exact ⟨Nat.ne_of_lt (Nat.lt_trans (Nat.lt_trans (Nat.lt_trans (Nat.lt_trans (Nat.lt_trans (Nat.lt_trans (q6.2.1) (r2.2.1)) (t1)) (s1)) (s2)) (s3)) (s4)), Nat.ne_of_lt (Nat.lt_trans (Nat.lt_trans (Nat.lt_trans (Nat.lt_trans (Nat.lt_trans (Nat.lt_trans (Nat.lt_trans (q6.2.1) (r2.2.1)) (t1)) (s1)) (s2)) (s3)) (s4)) (s5)), Nat.ne_of_lt (q6.2.2.1), Nat.ne_of_lt (Nat.lt_trans (q6.2.1) (r2.2.2.1)), Ne.symm n1, Nat.ne_of_lt (q6.2.2.2), Nat.ne_of_lt (Nat.lt_trans (q6.2.1) (r2.2.2.2)), Nat.ne_of_lt (Nat.lt_trans (Nat.lt_trans (Nat.lt_trans (q6.2.1) (r2.2.1)) (t1)) (s1)), Nat.ne_of_lt (Nat.lt_trans (Nat.lt_trans (Nat.lt_trans (Nat.lt_trans (q6.2.1) (r2.2.1)) (t1)) (s1)) (s2)), Nat.ne_of_lt (q6.2.1), Nat.ne_of_lt (Nat.lt_trans (q6.2.1) (r2.2.1))⟩
    · exact ⟨Nat.ne_of_lt (Nat.lt_trans (Nat.lt_trans (Nat.lt_trans (Nat.lt_trans (Nat.lt_trans (Nat.lt_trans (q7.2.1) (r2.2.1)) (t1)) (s1)) (s2)) (s3)) (s4)), Nat.ne_of_lt (Nat.lt_trans (Nat.lt_trans (Nat.lt_trans (Nat.lt_trans (Nat.lt_trans (Nat.lt_trans (Nat.lt_trans (q7.2.1) (r2.2.1)) (t1)) (s1)) (s2)) (s3)) (s4)) (s5)), Nat.ne_of_lt (q7.2.2.1), Nat.ne_of_lt (Nat.lt_trans (q7.2.1) (r2.2.2.1)), Ne.symm n2, Nat.ne_of_lt (q7.2.2.2), Nat.ne_of_lt (Nat.lt_trans (q7.2.1) (r2.2.2.2)), Nat.ne_of_lt (Nat.lt_trans (Nat.lt_trans (Nat.lt_trans (q7.2.1) (r2.2.1)) (t1)) (s1)), Nat.ne_of_lt (Nat.lt_trans (Nat.lt_trans (Nat.lt_trans (Nat.lt_trans (q7.2.1) (r2.2.1)) (t1)) (s1)) (s2)), Nat.ne_of_lt (q7.2.1), Nat.ne_of_lt (Nat.lt_trans (q7.2.1) (r2.2.1))⟩
    · exact ⟨Nat.ne_of_lt (Nat.lt_trans (Nat.lt_trans (Nat.lt_trans (s1) (s2)) (s3)) (s4)), Nat.ne_of_lt (Nat.lt_trans (Nat.lt_trans (Nat.lt_trans (Nat.lt_trans (s1) (s2)) (s3)) (s4)) (s5)), Nat.ne_of_gt (Nat.lt_trans (r3.2.1) (t1)), Nat.ne_of_gt (t2), Nat.ne_of_gt (Nat.lt_trans (r5.2.1) (t1)), Nat.ne_of_gt (Nat.lt_trans (r4.2.1) (t1)), Nat.ne_of_gt (t3), Nat.ne_of_lt (s1), Nat.ne_of_lt (Nat.lt_trans (s1) (s2)), Nat.ne_of_gt (Nat.lt_trans (r2.2.1) (t1)), Nat.ne_of_gt (t1)⟩
    · exact ⟨Nat.ne_of_lt (s4), Nat.ne_of_lt (Nat.lt_trans (s4) (s5)), Nat.ne_of_gt (Nat.lt_trans (Nat.lt_trans (Nat.lt_trans (Nat.lt_trans (r3.2.1) (t1)) (s1)) (s2)) (s3)), Nat.ne_of_gt (Nat.lt_trans (Nat.lt_trans (Nat.lt_trans (t2) (s1)) (s2)) (s3)), Nat.ne_of_gt (Nat.lt_trans (Nat.lt_trans (Nat.lt_trans (Nat.lt_trans (r5.2.1) (t1)) (s1)) (s2)) (s3)), Nat.ne_of_gt (Nat.lt_trans (Nat.lt_trans (Nat.lt_trans (Nat.lt_trans (r4.2.1) (t1)) (s1)) (s2)) (s3)), Nat.ne_of_gt (Nat.lt_trans (Nat.lt_trans (Nat.lt_trans (t3) (s1)) (s2)) (s3)), Nat.ne_of_gt (Nat.lt_trans (s2) (s3)), Nat.ne_of_gt (s3), Nat.ne_of_gt (Nat.lt_trans (Nat.lt_trans (Nat.lt_trans (Nat.lt_trans (r2.2.1) (t1)) (s1)) (s2)) (s3)), Nat.ne_of_gt (Nat.lt_trans (Nat.lt_trans (Nat.lt_trans (t1) (s1)) (s2)) (s3))⟩
    · exact ⟨Nat.ne_of_lt (Nat.lt_trans (Nat.lt_trans (Nat.lt_trans (Nat.lt_trans (Nat.lt_trans (Nat.lt_trans (q5.2.1) (r2.2.1)) (t1)) (s1)) (s2)) (s3)) (s4)), Nat.ne_of_lt (Nat.lt_trans (Nat.lt_trans (Nat.lt_trans (Nat.lt_trans (Nat.lt_trans (Nat.lt_trans (Nat.lt_trans (q5.2.1) (r2.2.1)) (t1)) (s1)) (s2)) (s3)) (s4)) (s5)), Nat.ne_of_lt (q5.2.2.1), Nat.ne_of_lt (Nat.lt_trans (q5.2.1) (r2.2.2.1)), Ne.symm n3, Nat.ne_of_lt (q5.2.2.2), Nat.ne_of_lt (Nat.lt_trans (q5.2.1) (r2.2.2.2)), Nat.ne_of_lt (Nat.lt_trans (Nat.lt_trans (Nat.lt_trans (q5.2.1) (r2.2.1)) (t1)) (s1)), Nat.ne_of_lt (Nat.lt_trans (Nat.lt_trans (Nat.lt_trans (Nat.lt_trans (q5.2.1) (r2.2.1)) (t1)) (s1)) (s2)), Nat.ne_of_lt (q5.2.1), Nat.ne_of_lt (Nat.lt_trans (q5.2.1) (r2.2.1))⟩
theorem LW.unpack {w : World} {L kd tp rw gl kl lf tm pl g0 dg0 st0 ou0 kn0 g1 dg1 st1 ou1 kn1 : Addr} {rvs kvs : List Value} {i : Nat} {N : Led} {tms : Int → Int} {nt : Nat} {vals : List Value} {ns : List Int} {ups0 ups1 : List Up} {kx0 kx1 : List Kn} {lx : List En} {n : Int}
    (X : LW w L ⟨kd, tp, rw, gl, kl, lf, tm, pl, g0, dg0, st0, ou0, kn0, g1, dg1, st1, ou1, kn1⟩ rvs kvs i N tms nt vals ns ups0 ups1 kx0 kx1 lx n) :
    ∃ cgl ckl ckd o1 o2 o3 x2 x3, (gl, listOf [Value.ref g0, Value.ref g1].toArray cgl) ∈ N ∧ (kl, listOf [Value.ref kn0, Value.ref kn1].toArray ckl) ∈ N ∧ (kd, listOf kvs.toArray ckd) ∈ N ∧ (L + 1, o1) ∈ N ∧ o1.data = .cell (some (.ref tp)) ∧ (L + 1 + 1, o2) ∈ N ∧ o2.data = .cell x2 ∧ (L + 1 + 1 + 1, o3) ∈ N ∧ o3.data = .cell x3 := by
  obtain ⟨c1, a1⟩ := X.R.gl
  obtain ⟨c2, a2⟩ := X.R.kl
  obtain ⟨c3, a3⟩ := X.R.kd
  obtain ⟨o1, a4, a5⟩ := X.R.c1
  obtain ⟨o2, x2, a6, a7⟩ := X.R.c2
  obtain ⟨o3, x3, a8, a9⟩ := X.R.c3
  exact ⟨c1, c2, c3, o1, o2, o3, x2, x3, a1, a2, a3, a4, a5, a6, a7, a8, a9⟩
/-- the kinds of deeds -/
def Kinds (kvs : List Value) : Prop := ∃ t0 t1 t2 t3 t4 t5 t6, kvs = [.str (Str.ofString "close") t0, .str (Str.ofString "push") t1, .str (Str.ofString "find") t2, .str (Str.ofString "find") t3, .str (Str.ofString "close") t4, .str (Str.ofString "write") t5, .str (Str.ofString "set") t6]
theorem Kinds.at {kvs : List Value} (h : Kinds kvs) {k : Int} (hk : 0 ≤ k ∧ k < 7) : ∃ s t, kvs[k.toNat]? = some (.str s t) ∧ (s = Str.ofString "close" ∨ s = Str.ofString "push" ∨ s = Str.ofString "find" ∨ s = Str.ofString "write" ∨ s = Str.ofString "set") := by
  obtain ⟨t0, t1, t2, t3, t4, t5, t6, rfl⟩ := h
  obtain ⟨j, rfl⟩ := Int.eq_ofNat_of_zero_le hk.1
  have hj : j < 7 := by omega
  rw [Int.toNat_natCast]
  match j, hj with
  | 0, _ => exact ⟨_, _, rfl, .inl rfl⟩
  | 1, _ => exact ⟨_, _, rfl, .inr (.inl rfl)⟩
  | 2, _ => exact ⟨_, _, rfl, .inr (.inr (.inl rfl))⟩
  | 3, _ => exact ⟨_, _, rfl, .inr (.inr (.inl rfl))⟩
  | 4, _ => exact ⟨_, _, rfl, .inl rfl⟩
  | 5, _ => exact ⟨_, _, rfl, .inr (.inr (.inr (.inl rfl)))⟩
  | 6, _ => exact ⟨_, _, rfl, .inr (.inr (.inr (.inr rfl)))⟩
/-- the row in three places, while it is changed place by place -/
structure Rows (pl st0 st1 : Addr) (vals vals' : List Value) (N n : Led) (j : Nat) : Prop where
  st : Step [st0, st1, pl] N n
  r0 : LiAt n pl (if 0 < j then vals' else vals)
  r1 : LiAt n st0 (if 1 < j then vals' else vals)
  r2 : LiAt n st1 (if 2 < j then vals' else vals)
section
variable {pl st0 st1 D I : Addr} {vals vals' : List Value} {N n : Led} {j c : Nat} {oI : Obj} {h₀ h : Heap} {L : Addr}
theorem Rows.get (R : Rows pl st0 st1 vals vals' N n j) {v : Value} (hv : [Value.ref pl, Value.ref st0, Value.ref st1][j]? = some v) : ∃ D, v = .ref D ∧ LiAt n D vals ∧ (D = pl ∨ D = st0 ∨ D = st1) := by
  match j, hv with
  | 0, hv => cases hv; exact ⟨pl, rfl, by simpa using R.r0, .inl rfl⟩
  | 1, hv => cases hv; exact ⟨st0, rfl, by simpa using R.r1, .inr (.inl rfl)⟩
  | 2, hv => cases hv; exact ⟨st1, rfl, by simpa using R.r2, .inr (.inr rfl)⟩
  | j + 3, hv => simp at hv
theorem Rows.next (R : Rows pl st0 st1 vals vals' N n j) (hv : [Value.ref pl, Value.ref st0, Value.ref st1][j]? = some (.ref D)) (d1 : pl ≠ st0) (d2 : pl ≠ st1) (d3 : st0 ≠ st1) (nI : ∀ q ∈ n, q.1 ≠ I) :
    Rows pl st0 st1 vals vals' N (off I ((D, listOf vals'.toArray c) :: off D ((I, oI) :: n))) (j + 1) := by
  obtain ⟨k0, m0⟩ := R.r0
  obtain ⟨k1, m1⟩ := R.r1
  obtain ⟨k2, m2⟩ := R.r2
  have i0 := nI _ m0
  have i1 := nI _ m1
  have i2 := nI _ m2
  have keep : ∀ {b : Addr} {ob : Obj}, (b, ob) ∈ n → b ≠ D → (b, ob) ∈ off I ((D, listOf vals'.toArray c) :: off D ((I, oI) :: n)) := fun hb hD => mem_off_of (.tail _ (mem_off_of (.tail _ hb) hD)) (nI _ hb)
  have st : ∀ b ∈ [D], b ∈ [st0, st1, pl] → Step [st0, st1, pl] N (off I ((D, listOf vals'.toArray c) :: off D ((I, oI) :: n))) := fun b hb hm => by
    rw [List.mem_singleton.mp hb] at hm
    refine (R.st.trans ((step_cons (p := (I, oI))).trans (step_front.wider fun x hx => by rw [List.mem_singleton.mp hx]; exact hm))).off fun q hq => ?_
    obtain ⟨o, ho⟩ := R.st.has q hq
    exact nI (q.1, o) ho
  match j, hv with
  | 0, hv =>
    cases hv
    exact ⟨st _ (.head _) (by simp), ⟨c, mem_off_of (.head _) i0⟩, ⟨k1, keep m1 (Ne.symm d1)⟩, ⟨k2, keep m2 (Ne.symm d2)⟩⟩
  | 1, hv =>
    cases hv
    exact ⟨st _ (.head _) (by simp), ⟨k0, keep m0 d1⟩, ⟨c, mem_off_of (.head _) i1⟩, ⟨k2, keep m2 (Ne.symm d3)⟩⟩
  | 2, hv =>
    cases hv
    exact ⟨st _ (.head _) (by simp), ⟨k0, keep m0 d2⟩, ⟨k1, keep m1 d3⟩, ⟨c, mem_off_of (.head _) i2⟩⟩
  | j + 3, hv => simp at hv
end
/-- the row is written, grown or cut -/
theorem LW.newrow {w : World} {L : Addr} {a : LA} {rvs kvs : List Value} {i : Nat} {N n : Led} {tms : Int → Int} {nt : Nat} {vals vals' : List Value} {ns ns' : List Int} {ups0 ups1 : List Up} {kx0 kx1 : List Kn} {lx : List En} {nn : Int} {h₀ h : Heap} {Lf : Addr} {i' : Nat}
    (X : LW w L a rvs kvs i N tms nt vals ns ups0 ups1 kx0 kx1 lx nn) (nw : News h₀ Lf h N) (R : Rows a.pl a.st0 a.st1 vals vals' N n 3) (iv : IntsAre vals' ns') (hi : i ≤ i') (hl : 1 ≤ vals'.length ∧ vals'.length ≤ 6 + i') (hl2 : vals'.length ≤ 60) (h0 : ∀ x ∈ ups0, x.ix < vals'.length) (h1 : ∀ x ∈ ups1, x.ix < vals'.length) :
    LW w L a rvs kvs i' n tms nt vals' ns' ups0 ups1 kx0 kx1 lx nn := by
  refine ⟨X.W.newrow nw R.st.keep R.r1 R.r2 R.r0 iv hl2 h0 h1, X.rest R.st.keep fun b hb => .inl ?_, X.D, X.nd, hl, ?_, ?_⟩
  · simp only [List.mem_cons, List.not_mem_nil, or_false] at hb
    simp only [LA.ms, List.mem_cons, List.not_mem_nil, or_false]
    rcases hb with h | h | h <;> simp [h]
  · have := X.b2; omega
  · have := X.b3; omega
theorem LW.later {w : World} {L : Addr} {a : LA} {rvs kvs : List Value} {i i' : Nat} {N : Led} {tms : Int → Int} {nt : Nat} {vals : List Value} {ns : List Int} {ups0 ups1 : List Up} {kx0 kx1 : List Kn} {lx : List En} {nn : Int}
    (X : LW w L a rvs kvs i N tms nt vals ns ups0 ups1 kx0 kx1 lx nn) (hi : i ≤ i') : LW w L a rvs kvs i' N tms nt vals ns ups0 ups1 kx0 kx1 lx nn := by
  have h1 := X.b1
  have h2 := X.b2
  have h3 := X.b3
  exact ⟨X.W, X.R, X.D, X.nd, by omega, by omega, by omega⟩
theorem nice_ne {N : Led} {I b : Addr} {oI ob : Obj} {h₀ h : Heap} {L : Addr} (nw : News h₀ L h N) (hI : (I, oI) ∈ N) (hn : nice oI = false) (hb : (b, ob) ∈ N) (hb' : nice ob = true) : I ≠ b := by
  rintro rfl
  rw [news_one nw hI hb, hb'] at hn
  cases hn
theorem map_self {x : Str} {m : Str → Option Value} : m = fun y => if y = x then m x else m y := by
  funext y; by_cases e : y = x
  · subst e; simp
  · simp [e]
theorem ints_set : ∀ {vs : List Value} {ns : List Int}, IntsAre vs ns → ∀ (k : Nat) (v : Int) (t : Tok), IntsAre (vs.set k (.int v t)) (ns.set k v)
  | _, _, .nil, _, _, _ => .nil
  | _, _, .cons n u r, 0, v, t => .cons v t r
  | _, _, .cons n u r, k + 1, v, t => .cons n u (ints_set r k v t)
theorem ints_take : ∀ {vs : List Value} {ns : List Int}, IntsAre vs ns → ∀ (k : Nat), IntsAre (vs.take k) (ns.take k)
  | _, _, _, 0 => by rw [List.take_zero, List.take_zero]; exact .nil
  | _, _, .nil, _ + 1 => .nil
  | _, _, .cons n u r, k + 1 => .cons n u (ints_take r k)
end
section
theorem LS.unpack {w : World} {L kd tp rw gl kl lf tm pl g0 dg0 st0 ou0 kn0 g1 dg1 st1 ou1 kn1 : Addr} {rvs kvs : List Value} {N : Led} {n : Int}
    (R : LS w L ⟨kd, tp, rw, gl, kl, lf, tm, pl, g0, dg0, st0, ou0, kn0, g1, dg1, st1, ou1, kn1⟩ rvs kvs n N) :
    ∃ cgl ckl ckd o1 o2 o3 x2 x3, (gl, listOf [Value.ref g0, Value.ref g1].toArray cgl) ∈ N ∧ (kl, listOf [Value.ref kn0, Value.ref kn1].toArray ckl) ∈ N ∧ (kd, listOf kvs.toArray ckd) ∈ N ∧ (L + 1, o1) ∈ N ∧ o1.data = .cell (some (.ref tp)) ∧ (L + 1 + 1, o2) ∈ N ∧ o2.data = .cell x2 ∧ (L + 1 + 1 + 1, o3) ∈ N ∧ o3.data = .cell x3 := by
  obtain ⟨c1, a1⟩ := R.gl
  obtain ⟨c2, a2⟩ := R.kl
  obtain ⟨c3, a3⟩ := R.kd
  obtain ⟨o1, a4, a5⟩ := R.c1
  obtain ⟨o2, x2, a6, a7⟩ := R.c2
  obtain ⟨o3, x3, a8, a9⟩ := R.c3
  exact ⟨c1, c2, c3, o1, o2, o3, x2, x3, a1, a2, a3, a4, a5, a6, a7, a8, a9⟩
section
variable {w : World} {L : Addr} {a : LA} {rvs kvs : List Value} {i : Nat} {N N1 N2 : Led} {tms : Int → Int} {nt : Nat} {vals : List Value} {ns : List Int} {ups0 ups1 ups0' ups1' : List Up} {kx0 kx1 ke0 ke1 : List Kn} {lx le0 le1 : List En} {nn : Int} {h₀ h h1 h2 : Heap} {Lf : Addr}
theorem LW.found (X : LW w L a rvs kvs i N tms nt vals ns ups0 ups1 kx0 kx1 lx nn) (n : News h₀ Lf h N) (n1 : News h₀ Lf h1 N1) (n2 : News h₀ Lf h2 N2)
    (I0 : FI w tms a.g0 a.dg0 a.st0 a.ou0 a.kn0 a.lf vals.length N1 ups0' (kx0 ++ ke0) (lx ++ le0)) (S0 : Step [a.ou0, a.kn0, a.lf] N N1) {pls0 pls1 : List Value} (f0 : FNew tms N pls0 pls0.length kx0 lx ke0 le0)
    (I1 : FI w tms a.g1 a.dg1 a.st1 a.ou1 a.kn1 a.lf vals.length N2 ups1' (kx1 ++ ke1) ((lx ++ le0) ++ le1)) (S1 : Step [a.ou1, a.kn1, a.lf] N1 N2) (f1 : FNew tms N1 pls1 pls1.length kx1 (lx ++ le0) ke1 le1) (hp : ∀ v, v ∈ pls0 ↔ v ∈ pls1)
    (hl : pls0.length ≤ 3 ∧ pls1.length ≤ 3) (hk0 : ke0.length ≤ pls0.length) (hl0 : le0.length ≤ pls0.length) (hk1 : ke1.length ≤ pls1.length) :
    LW w L a rvs kvs (i + 1) N2 tms nt vals ns ups0' ups1' (kx0 ++ ke0) (kx1 ++ ke1) (lx ++ le0) nn := by
  have b1 := X.b1
  have b2 := X.b2
  have b3 := X.b3
  have dm := fun b hb => (X.D b hb).1
  refine ⟨X.W.found n n1 n2 I0 S0 f0 I1 S1 f1 hp, (X.R.keep S0.keep fun b hb hx => dm b hb ?_).keep S1.keep fun b hb hx => dm b hb ?_, fun b hb => ⟨dm b hb, fun k hk => ?_⟩, X.nd, by omega, by simp only [List.length_append]; omega, by omega⟩
  · simp only [List.mem_cons, List.not_mem_nil, or_false] at hx
    simp only [LA.ms, List.mem_cons, List.not_mem_nil, or_false]
    rcases hx with h | h | h <;> simp [h]
  · simp only [List.mem_cons, List.not_mem_nil, or_false] at hx
    simp only [LA.ms, List.mem_cons, List.not_mem_nil, or_false]
    rcases hx with h | h | h <;> simp [h]
  · obtain ⟨o, ho⟩ := LS.has X.R b hb
    obtain ⟨o1, ho1⟩ := S0.has _ ho
    have old := (X.D b hb).2
    rcases List.mem_append.mp hk with hk | hk
    · rcases List.mem_append.mp hk with hk | hk
      · exact old k (List.mem_append_left _ hk)
      · exact Nat.ne_of_gt ((f0.k k hk).2.2 _ ho).1
    · rcases List.mem_append.mp hk with hk | hk
      · exact old k (List.mem_append_right _ hk)
      · exact Nat.ne_of_gt ((f1.k k hk).2.2 _ ho1).1
/-- what is closed is closed on both grounds -/
theorem LW.closed {S : List Int} {la : Int → Addr} {nt' : Nat} {level : Int} (X : LW w L a rvs kvs i N tms nt vals ns ups0 ups1 kx0 kx1 lx nn)
    (W' : Two w (tick S tms) nt' a.g0 a.dg0 a.st0 a.ou0 a.kn0 a.g1 a.dg1 a.st1 a.ou1 a.kn1 a.lf a.pl a.tm vals ns N1 ups0' ups1' kx0 kx1 (lx.map (clo vals S la))) (hn : nt' ≤ nt + 64)
    (K : Keep (a.lf :: a.tm :: a.ou0 :: a.ou1 :: (twD ups0 level ++ twD ups1 level)) N N1) :
    LW w L a rvs kvs (i + 1) N1 (tick S tms) nt' vals ns ups0' ups1' kx0 kx1 (lx.map (clo vals S la)) nn := by
  have b1 := X.b1
  have b2 := X.b2
  have b3 := X.b3
  refine ⟨W', X.rest K fun b hb => ?_, X.D, X.nd, by omega, by rw [List.length_map]; omega, by omega⟩
  rcases List.mem_cons.mp hb with rfl | hb
  · exact .inl (by simp)
  rcases List.mem_cons.mp hb with rfl | hb
  · exact .inl (by simp)
  rcases List.mem_cons.mp hb with rfl | hb
  · exact .inl (by simp)
  rcases List.mem_cons.mp hb with rfl | hb
  · exact .inl (by simp)
  rcases List.mem_append.mp hb with hb | hb
  · obtain ⟨x, hx, rfl⟩ := List.mem_map.mp hb
    obtain ⟨k, k1, _, _, _, k2⟩ := X.W.h0.fi.r1 x ((List.takeWhile_sublist _).subset hx)
    exact .inr ⟨k, List.mem_append_left _ k1, k2⟩
  · obtain ⟨x, hx, rfl⟩ := List.mem_map.mp hb
    obtain ⟨k, k1, _, _, _, k2⟩ := X.W.h1.fi.r1 x ((List.takeWhile_sublist _).subset hx)
    exact .inr ⟨k, List.mem_append_right _ k1, k2⟩
/-- a closed variable is set -/
theorem LW.shut {l : Addr} {e0 : En} {k0 k1 : Kn} {v : Int} {t : Tok} (X : LW w L a rvs kvs i N tms nt vals ns ups0 ups1 kx0 kx1 lx nn) (n : News h₀ Lf h N) (K : Keep [k0.d, k1.d, a.lf] N N1) (he0 : e0 ∈ lx) (hc0 : e0.c ≠ none) (hk0 : k0 ∈ kx0) (hkk0 : k0.key = e0.key) (hk1 : k1 ∈ kx1) (hkk1 : k1.key = e0.key)
    (u0 : UpAt w.params N1 k0.u k0.d .none (-1) (.int v t)) (u1 : UpAt w.params N1 k1.u k1.d .none (-1) (.int v t)) (hlf : ∃ o, (a.lf, o) ∈ N1 ∧ IsTab prog w o (lfTab (lx.map (setE e0.key l (.int v t))))) (hl : LiAt N1 l [.int v t]) (hln : ∀ q ∈ N, q.1 < l) :
    LW w L a rvs kvs (i + 1) N1 tms nt vals ns ups0 ups1 kx0 kx1 (lx.map (setE e0.key l (.int v t))) nn := by
  have b1 := X.b1
  have b2 := X.b2
  have b3 := X.b3
  refine ⟨X.W.shut n K he0 hc0 hk0 hkk0 hk1 hkk1 u0 u1 hlf hl hln, X.rest K fun b hb => ?_, X.D, X.nd, by omega, by rw [List.length_map]; omega, by omega⟩
  simp only [List.mem_cons, List.not_mem_nil, or_false] at hb
  rcases hb with rfl | rfl | rfl
  · exact .inr ⟨k0, List.mem_append_left _ hk0, rfl⟩
  · exact .inr ⟨k1, List.mem_append_right _ hk1, rfl⟩
  · exact .inl (by simp)
end
theorem ints_mem {vs : List Value} {ns : List Int} (h : IntsAre vs ns) : ∀ v ∈ vs, ∃ k t, v = Value.int k t ∧ k ∈ ns := by
  induction h with
  | nil => exact fun _ h => nomatch h
  | cons n t _ ih =>
    intro v hv
    rcases List.mem_cons.mp hv with rfl | hv
    · exact ⟨n, t, rfl, .head _⟩
    · obtain ⟨k, u, a, b⟩ := ih v hv
      exact ⟨k, u, a, .tail _ b⟩
section
variable {prog : Program} {w : World} {A : Around} {E : Value → Shared → Prop} {s : Shared} {h₀ : Heap} {L D b : Addr} {m : Str → Option Value} {n₁ : Led} {n nb : Nat} {vs : List Value} {p : Addr × Obj}
theorem cut_T {vl : Value} {x : Int} {Q : Unit → Shared → Prop} (F : Fr h₀ L s.heap m) (N : News h₀ L s.heap ((b, listOf #[] nb) :: p :: n₁)) (l : @LT.lt Nat _ p.1 b ∧ AllLt b n₁) (hD : (D, listOf vs.toArray n) ∈ n₁) (pl : IsPart vl (some x)) (hx : 0 ≤ x) (hz : vs.length ≤ 1000)
    (h : ∀ h' c, Fr h₀ L h' m → News h₀ L h' ((D, listOf (vs.take x.toNat).toArray c) :: off D (p :: n₁)) → Q () { s with heap := h' }) :
    wpAny (model prog w) A (setItem (.ref D) (.ref s.heap.objs.size) (.ref b)) Q E { s with heap := s.heap.push { cls := .type "slice", data := .fields #[vl, .none, .none] } } :=
  cut_L F N (.tail _ (.tail _ hD)) (.head _) (allLt_ne l.2 _ hD) pl hx hz fun h' c F' N' => h h' c F' (sub N' fun q hq => by
    rcases List.mem_cons.mp hq with rfl | hq
    · exact .head _
    · exact .tail _ (mem_off_of (.tail _ (off_sub _ hq)) (off_ne q hq)))
end
section
variable {prog : Program} {w : World} {A : Around} {E : Value → Shared → Prop} {s : Shared} {h₀ : Heap} {L d a : Addr} {news : Led} {o : Obj} {xs : TL} {ks : List Int}
theorem item_T2 {value slice : PySem.Expr} {Q : Value → Shared → Prop} {p : Addr × Value} (hu : A.units + 1 < cLine) (N : News h₀ L s.heap news) (T : TabAt prog w news d o xs) (hk : KeyIn prog w news ks a) (hp : atKey xs ks = some p) (h : ∀ tk, Q p.2 { s with toks := tk })
    (hs : subscripted slice false (.ref d) (.ref a) = operate [.ref d, .ref a] (getItem (.ref d) (.ref a)) := by with_unfolding_all rfl) :
    wpAny (model prog w) A (subscriptTail value slice (.ref d) (.ref a)) Q E s :=
  tail_any (T.dict N).typeIs slot_dict_getitem.lookup (wpAny_getItem_heap (tupleKind_room_in1 hu) (hk.key N) (T.dict N) hp (h _)) hs
end
end
section
theorem key_inj {a b c d : Int} (h : [a, b] = [c, d]) : a = c ∧ b = d := by
  injection h with h1 h2; injection h2 with h3 _; exact ⟨h1, h3⟩
theorem keep_off {a : Addr} {N : Led} : Keep [a] N (off a N) := fun q hq hn => mem_off_of hq (by simpa using hn)
theorem keep_grAt {N N' : Led} {h₀ h : Heap} {L : Addr} {fp : List Addr} (n : News h₀ L h N) (K : Keep fp N N') (hf : ∀ b ∈ fp, ∃ vs c, (b, listOf vs c) ∈ N) {P : Params} {g d st ou : Addr} (x : GrAt P N g d st ou) : GrAt P N' g d st ou :=
  let ⟨a1, τ, c, a2⟩ := x; ⟨keep_nl n K hf a1 (by decide : (3 : Nat) ≠ 1), τ, c, keep_nl n K hf a2 (by decide : (2 : Nat) ≠ 1)⟩
theorem one_list {N : Led} {a : Addr} {vs : Array Value} {c : Nat} (h : (a, listOf vs c) ∈ N) : ∀ b ∈ [a], ∃ vs c, (b, listOf vs c) ∈ N := fun b hb => by
  rw [List.mem_singleton.mp hb]; exact ⟨_, _, h⟩
theorem keep_one {N N' : Led} {a b : Addr} {o : Obj} (K : Keep [a] N N') (h : (b, o) ∈ N) (hn : b ≠ a) : (b, o) ∈ N' := K _ h (by simpa using hn)
/-- the row set in its three places -/
theorem Rows.three {pl st0 st1 : Addr} {vals vals' : List Value} {N N1 N2 N3 : Led} {c0 c1 c2 : Nat} (S1 : Step [st0] N N1) (S2 : Step [st1] N1 N2) (S3 : Step [pl] N2 N3) (m0 : (st0, listOf vals'.toArray c0) ∈ N1) (m1 : (st1, listOf vals'.toArray c1) ∈ N2) (m2 : (pl, listOf vals'.toArray c2) ∈ N3)
    (d1 : st0 ≠ st1) (d2 : st0 ≠ pl) (d3 : st1 ≠ pl) : Rows pl st0 st1 vals vals' N N3 3 :=
  ⟨(S1.wider (by simp)).trans ((S2.wider (by simp)).trans (S3.wider (by simp))), ⟨c2, m2⟩, ⟨c0, keep_one S3.keep (keep_one S2.keep m0 d1) d2⟩, ⟨c1, keep_one S3.keep m1 d3⟩⟩

/-- the fixed places of the state, in continuation form (an `obtain` writes the nest anew at each level) -/
theorem LS.unpackK {w : World} {L kd tp rw gl kl lf tm pl g0 dg0 st0 ou0 kn0 g1 dg1 st1 ou1 kn1 : Addr} {rvs kvs : List Value} {N : Led} {n : Int} {P : Prop}
    (R : LS w L ⟨kd, tp, rw, gl, kl, lf, tm, pl, g0, dg0, st0, ou0, kn0, g1, dg1, st1, ou1, kn1⟩ rvs kvs n N)
    (k : ∀ cgl ckl ckd oc1 oc2 oc3 x2 x3, (gl, listOf [Value.ref g0, Value.ref g1].toArray cgl) ∈ N → (kl, listOf [Value.ref kn0, Value.ref kn1].toArray ckl) ∈ N → (kd, listOf kvs.toArray ckd) ∈ N → (L + 1, oc1) ∈ N → oc1.data = .cell (some (.ref tp)) → (L + 1 + 1, oc2) ∈ N → oc2.data = .cell x2 → (L + 1 + 1 + 1, oc3) ∈ N → oc3.data = .cell x3 → P) : P := by
  obtain ⟨cgl, ckl, ckd, oc1, oc2, oc3, x2, x3, mgl, mkl, mkd, mc1, dc1, mc2, dc2, mc3, dc3⟩ := R.unpack
  exact k _ _ _ _ _ _ _ _ mgl mkl mkd mc1 dc1 mc2 dc2 mc3 dc3
theorem LW.unpackK {w : World} {L kd tp rw gl kl lf tm pl g0 dg0 st0 ou0 kn0 g1 dg1 st1 ou1 kn1 : Addr} {rvs kvs : List Value} {i : Nat} {N : Led} {tms : Int → Int} {nt : Nat} {vals : List Value} {ns : List Int} {ups0 ups1 : List Up} {kx0 kx1 : List Kn} {lx : List En} {n : Int} {P : Prop}
    (X : LW w L ⟨kd, tp, rw, gl, kl, lf, tm, pl, g0, dg0, st0, ou0, kn0, g1, dg1, st1, ou1, kn1⟩ rvs kvs i N tms nt vals ns ups0 ups1 kx0 kx1 lx n)
    (k : ∀ cgl ckl ckd oc1 oc2 oc3 x2 x3, (gl, listOf [Value.ref g0, Value.ref g1].toArray cgl) ∈ N → (kl, listOf [Value.ref kn0, Value.ref kn1].toArray ckl) ∈ N → (kd, listOf kvs.toArray ckd) ∈ N → (L + 1, oc1) ∈ N → oc1.data = .cell (some (.ref tp)) → (L + 1 + 1, oc2) ∈ N → oc2.data = .cell x2 → (L + 1 + 1 + 1, oc3) ∈ N → oc3.data = .cell x3 → P) : P := LS.unpackK X.R k
end
section
/-- small sums, each shown once -/
theorem le_dep {a b c : Nat} (h : a ≤ b) (k : b ≤ c) : a ≤ c := Nat.le_trans h k
theorem tnA {b c : Int} (h : 0 ≤ b ∧ b < c) : b = (b.toNat : Int) := (Int.toNat_of_nonneg h.1).symm
theorem tnB {a b c : Int} (ha : 0 ≤ a) (h : 0 ≤ b ∧ b < c) : a + b = ((a + b).toNat : Int) := (Int.toNat_of_nonneg (Int.add_nonneg ha h.1)).symm
theorem tnC {b c : Int} {k : Nat} (h : 0 ≤ b ∧ b < c) (hc : c ≤ (k : Int)) : b.toNat ≤ k := Int.toNat_le.mpr (Int.le_of_lt (Int.lt_of_lt_of_le h.2 hc))
theorem tnD {a b c : Int} {k : Nat} (h : 0 ≤ b ∧ b < c) (hc : a + c ≤ (k : Int)) : (a + b).toNat ≤ k := Int.toNat_le.mpr (Int.le_of_lt (Int.lt_of_lt_of_le (Int.add_lt_add_left h.2 a) hc))
theorem eqJ {a : Int} {j : Nat} : a + (j : Int) + 1 = a + ((j + 1 : Nat) : Int) := Int.add_assoc _ _ _
section
variable {nn fc c : Int} {i j : Nat} (h0 : 0 ≤ nn) (h1 : nn ≤ 20 + 20 * (i : Int)) (hi : i < 8)
include h0 h1 hi
theorem nn_le : nn ≤ 160 := by omega
theorem nb_0 : 0 ≤ nn ∧ nn ≤ 1000 := ⟨h0, Int.le_trans (nn_le h0 h1 hi) (by decide)⟩
theorem nb_k {k m : Int} (hk : 0 ≤ k) (hm : k ≤ m) (h : m ≤ 840) : 0 ≤ nn + k ∧ nn + k ≤ 1000 := ⟨Int.add_nonneg h0 hk, Int.le_trans (Int.add_le_add (nn_le h0 h1 hi) (Int.le_trans hm h)) (by decide)⟩
theorem nb_1 : 0 ≤ nn + 1 ∧ nn + 1 ≤ 1000 := nb_k h0 h1 hi (by decide) (Int.le_refl _) (by decide)
theorem nb_2 : 0 ≤ nn + 1 + 1 ∧ nn + 1 + 1 ≤ 1000 := by rw [Int.add_assoc]; exact nb_k h0 h1 hi (by decide) (Int.le_refl _) (by decide)
theorem nb_3 : 0 ≤ nn + 1 + 1 + 1 ∧ nn + 1 + 1 + 1 ≤ 1000 := by rw [Int.add_assoc, Int.add_assoc]; exact nb_k h0 h1 hi (by decide) (Int.le_refl _) (by decide)
theorem nb_4 : 0 ≤ nn + 1 + 1 + 1 + 1 ∧ nn + 1 + 1 + 1 + 1 ≤ 1000 := by rw [Int.add_assoc, Int.add_assoc, Int.add_assoc]; exact nb_k h0 h1 hi (by decide) (Int.le_refl _) (by decide)
theorem nb_j2 (hf : 0 ≤ fc ∧ fc < 3) (hj : j < (1 + fc).toNat) : 0 ≤ nn + 1 + 1 + (j : Int) ∧ nn + 1 + 1 + (j : Int) ≤ 1000 := by
  have := tnD (a := 1) (k := 4) hf (by decide)
  have hj : j ≤ 4 := Nat.le_trans (Nat.le_of_lt hj) this
  rw [Int.add_assoc, Int.add_assoc]
  refine nb_k (m := 6) h0 h1 hi (by omega) (by omega) (by decide)
theorem nb_j3 (hf : 0 ≤ fc ∧ fc < 3) (hj : j < fc.toNat) : 0 ≤ nn + 1 + 1 + 1 + (j : Int) ∧ nn + 1 + 1 + 1 + (j : Int) ≤ 1000 := by
  have := tnC (k := 3) hf (by decide)
  have hj : j ≤ 3 := Nat.le_trans (Nat.le_of_lt hj) this
  rw [Int.add_assoc, Int.add_assoc, Int.add_assoc]
  refine nb_k (m := 6) h0 h1 hi (by omega) (by omega) (by decide)
theorem nb_f3 (hf : 0 ≤ fc ∧ fc < 3) : 0 ≤ nn + 1 + 1 + 1 + (fc.toNat : Int) ∧ nn + 1 + 1 + 1 + (fc.toNat : Int) ≤ 1000 := by
  have := tnC (k := 3) hf (by decide)
  rw [Int.add_assoc, Int.add_assoc, Int.add_assoc]
  refine nb_k (m := 6) h0 h1 hi (by omega) (by omega) (by decide)
end
section
variable {nn fc c : Int} {i j : Nat} (h1 : nn ≤ 20 + 20 * (i : Int))
include h1
theorem fe_k {k : Int} (h : k ≤ 20) : nn + k ≤ 20 + 20 * ((i : Int) + 1) := by
  rw [Int.mul_add, ← Int.add_assoc]
  exact Int.add_le_add h1 h
theorem fe_1 : nn + 1 ≤ 20 + 20 * ((i : Int) + 1) := fe_k h1 (by decide)
theorem fe_2 : nn + 1 + 1 ≤ 20 + 20 * ((i : Int) + 1) := by rw [Int.add_assoc]; exact fe_k h1 (by decide)
theorem fe_3 : nn + 1 + 1 + 1 ≤ 20 + 20 * ((i : Int) + 1) := by rw [Int.add_assoc, Int.add_assoc]; exact fe_k h1 (by decide)
theorem fe_4 : nn + 1 + 1 + 1 + 1 ≤ 20 + 20 * ((i : Int) + 1) := by rw [Int.add_assoc, Int.add_assoc, Int.add_assoc]; exact fe_k h1 (by decide)
theorem fe_f3 (hf : 0 ≤ fc ∧ fc < 3) : nn + 1 + 1 + 1 + (fc.toNat : Int) + 1 ≤ 20 + 20 * ((i : Int) + 1) := by
  have := tnC (k := 3) hf (by decide)
  rw [Int.add_assoc, Int.add_assoc, Int.add_assoc, Int.add_assoc]
  exact fe_k h1 (by omega)
theorem fe_f2 (hf : 0 ≤ fc ∧ fc < 3) : nn + 1 + 1 + ((1 + fc).toNat : Int) ≤ 20 + 20 * ((i : Int) + 1) := by
  have := tnD (a := 1) (k := 4) hf (by decide)
  rw [Int.add_assoc, Int.add_assoc]
  exact fe_k h1 (by omega)
end
section
variable {nn fc : Int} (h0 : 0 ≤ nn)
include h0
theorem fs_1 : 0 ≤ nn + 1 := Int.add_nonneg h0 (by decide)
theorem fs_2 : 0 ≤ nn + 1 + 1 := Int.add_nonneg (fs_1 h0) (by decide)
theorem fs_3 : 0 ≤ nn + 1 + 1 + 1 := Int.add_nonneg (fs_2 h0) (by decide)
theorem fs_4 : 0 ≤ nn + 1 + 1 + 1 + 1 := Int.add_nonneg (fs_3 h0) (by decide)
theorem fs_f3 {n : Nat} : 0 ≤ nn + 1 + 1 + 1 + (n : Int) + 1 := Int.add_nonneg (Int.add_nonneg (fs_3 h0) (Int.natCast_nonneg _)) (by decide)
theorem fs_f2 {n : Nat} : 0 ≤ nn + 1 + 1 + (n : Int) := Int.add_nonneg (fs_2 h0) (Int.natCast_nonneg _)
end
/-- the row's length through the deeds -/
theorem len_first {n : Nat} {z : Int} (h : n = (3 + z).toNat) (b : 0 ≤ z ∧ z < 4) : 1 ≤ n ∧ n ≤ 6 + 0 ∧ n ≤ 60 := by
  have e : n ≤ 6 := h ▸ Int.toNat_le.mpr (Int.add_le_add_left (Int.le_of_lt_add_one b.2 : z ≤ 3) 3)
  exact ⟨h ▸ (Int.le_toNat (Int.add_nonneg (by decide) b.1)).mpr (Int.le_trans (by decide) (Int.add_le_add_left b.1 3)), e, Nat.le_trans e (by decide)⟩
theorem len_same {n i : Nat} (b : 1 ≤ n ∧ n ≤ 6 + i) : 1 ≤ n ∧ n ≤ 6 + (i + 1) := ⟨b.1, Nat.le_succ_of_le b.2⟩
theorem len_more {n i : Nat} (b : 1 ≤ n ∧ n ≤ 6 + i) : 1 ≤ n + 1 ∧ n + 1 ≤ 6 + (i + 1) := ⟨Nat.le_add_left _ _, Nat.succ_le_succ b.2⟩
theorem len_60 {n i : Nat} (b : 1 ≤ n ∧ n ≤ 6 + i) (hi : i < 8) : n + 1 ≤ 60 := by omega
theorem len_cut {n i : Nat} {lev : Int} (b : 1 ≤ n ∧ n ≤ 6 + i) : 1 ≤ min (max lev 1).toNat n ∧ min (max lev 1).toNat n ≤ 6 + i :=
  ⟨Nat.le_min.mpr ⟨Int.le_toNat (by omega) |>.mpr (by omega), b.1⟩, Nat.le_trans (Nat.min_le_right _ _) b.2⟩
theorem cut_60 {n k : Nat} (h : n ≤ 60) : min k n ≤ 60 := Nat.le_trans (Nat.min_le_right _ _) h
theorem cut_rng {n : Nat} {lev x : Int} (h : x < (n : Int)) (k : x < lev) : x < ((min (max lev 1).toNat n : Nat) : Int) := by
  have e : ((min (max lev 1).toNat n : Nat) : Int) = min ((max lev 1).toNat : Int) n := by omega
  rw [e]
  exact Int.lt_min.mpr ⟨Int.lt_of_lt_of_le k (Int.le_trans (Int.le_max_left _ _) (Int.self_le_toNat _)), h⟩
theorem if_max {lev : Int} : (if (1 : Int) > lev then (1 : Int) else lev) = max lev 1 := by split <;> omega
theorem m3 {n i k : Nat} (b : n ≤ 3 * i) (hi : i < 8) (hk : 24 ≤ k) : n ≤ k := by omega
theorem m64 {n i k : Nat} (b : n ≤ 64 * i) (hi : i ≤ 8) (hk : 512 ≤ k) : n ≤ k := by omega
theorem m3a {n i k l : Nat} (b : n ≤ 3 * i) (hi : i < 8) (hl : l ≤ k) (hk : k ≤ 3) : n + l ≤ 500 := by omega
theorem two_of {c : Int} (b : 0 ≤ c ∧ c < 2) : c = 0 ∨ c = 1 := by
  rcases Int.lt_or_eq_of_le b.1 with h | h
  · exact .inr (Int.le_antisymm (Int.le_of_lt_add_one b.2) h)
  · exact .inl h.symm
/-- the deeds' invariant: the state between two deeds, with the frame's names (one constructor: taken apart in one step) -/
inductive DI (w : World) (L : Addr) (a : LA) (rvs kvs : List Value) (b : Str → Option Value) (i : Nat) (m : Str → Option Value) (N : Led) : Prop
  | mk (v1 v2 v3 v4 v5 v6 v7 v8 : Option Value) (tms : Int → Int) (nt : Nat) (vals : List Value) (nz : List Int) (ups0 ups1 : List Up) (kx0 kx1 : List Kn) (lx : List En) (nn : Int)
    (hm : m = kMap v1 v2 v3 v4 v5 v6 v7 v8 b) (X : LW w L a rvs kvs i N tms nt vals nz ups0 ups1 kx0 kx1 lx nn) (h0 : 0 ≤ nn) (h1 : nn ≤ 20 + 20 * (i : Int)) : DI w L a rvs kvs b i m N
end
section
/-- what the law leaves behind -/
def LawEnd (s₁ : Shared) (fl : Flow) (s' : Shared) : Prop := rv fl = .bool true ∧ (∀ b o, s₁.heap.get? b = some o → s'.heap.get? b = some o) ∧ s'.os = s₁.os ∧ s'.gens = s₁.gens
/-- the end of a turn, its claim behind one variable -/
def TurnR (R : Flow → Shared → Prop) (f : Flow) (s : Shared) : Prop := R f s
/-- a word that bids the walk stand still at a statement that is an expression -/
def SetFlag : Prop := True
def SubFlag : Prop := True
abbrev lMap (kd : Option Value) (sc : Addr) : Str → Option Value := fun y => if y = Str.ofString "script" then some (.ref sc) else none
theorem lay_MLaw : True := by
  k_with_none
  k_with "execs cons" => ((first | (with_reducible show wpAny _ _ (execs _ _) (CutR _) _ _) | (refine cutQ ?_; intro cutR cutH)); refine wpAny_execs_cons ?_; refine cutQ ?_; intro cutR cutH)
  k_with "CutR" => ((first | (refine Cut.go cutH _ _ ?_; (try clear cutH); (try clear cutR)) | refine Cut.go (by assumption) _ _ ?_); (try dsimp only))
  k_with "exec While" => refine stop ?_
  k_with "Back" => refine stop ?_
  k_with "WhileStep" => refine stop ?_
  k_with "call builtin:len" => (k_here; (with_reducible show wpAny _ _ (call (Value.builtin "len") [Value.ref _]) _ _ _); k_dflt (refine' len_L (by k_asm) (by k_mem) (by first | exact List.length_map _ | exact rfl) (by omega) ?_); intro _ _)
  k_with "subscriptTail" => (k_here; (with_reducible show wpAny _ _ (subscriptTail _ _ (Value.ref _) (Value.int _ _)) _ _ _); k_dflt (refine' item_L (by k_asm) (by k_mem) (by first | exact at_refs (by assumption) | assumption | exact rfl) (by omega) ?_ (by with_unfolding_all rfl)))
  k_with "call builtin:list.insert" => (k_here; (with_reducible show wpAny _ _ (call (Value.builtin _) [Value.ref _, Value.int _ _, _]) _ _ _); k_dflt (refine' insert_L (by k_asm) (by k_asm) ?_ ?_ (by k_upd) ?_; (first | assumption | (simp only [List.length_map]; first | assumption | omega)); (simp only [List.length_map]; omega)); intro _ _ _; (try k_sweep))
  k_with "call builtin:list.pop" => (k_here; (with_reducible show wpAny _ _ (call (Value.builtin _) [Value.ref _, Value.int _ _]) _ _ _); k_dflt (refine' pop0_L (by k_asm) (by k_asm) ?_ (by k_upd) ?_; (simp only [List.length_map]; omega)); intro _ _ _; (try k_sweep))
  k_with "call builtin:list.append" => (k_here; (with_reducible show wpAny _ _ (call (Value.builtin _) [Value.ref _, _]) _ _ _); k_dflt (refine' append_L (by k_asm) (by k_asm) ?_ (by k_upd) ?_; (first | omega | (simp only [List.length_map]; omega) | (simp; omega))); intro _ _ _; (try k_sweep))
  k_with "setAttr ref" => (k_here; k_dflt (refine' set_dict (by k_asm) (by k_asm) (by k_asm) (by k_inst) (by exact rfl) (by k_is) (by k_is) (by k_is) (by k_is) (by k_get) (by first | exact put_value | exact put_thread | exact put_index) (by k_upd) (by exact Nat.le_of_ble_eq_true rfl) ?_; k_whole; intro _ _ _; (try k_sweep)))
  k_with "setItem ref int" => (k_here; (with_reducible show wpAny _ _ (setItem (Value.ref _) (Value.int _ _) _) _ _ _); k_dflt (refine' set_L (by k_asm) (by k_asm) (by k_upd) (by first | assumption | omega | (constructor <;> omega)) (by first | omega | (simp only [List.length_map]; omega)) ?_); intro _ _ _; (try k_sweep))
  k_with "exec For Name Attribute cons nil" => refine stop ?_
  k_with "exec For Name Name cons nil" => refine stop ?_
  k_with "TurnE" => refine stop ?_
  k_with "eval ListComp" => refine stop ?_
  k_with "exec Assign cons ListComp" => refine stop ?_
  k_with "CTurn" => refine stop ?_
  k_with "FinE" => refine stop ?_
  k_with "FinA" => refine stop ?_
  k_with "getMethod ref" => (k_here; (with_reducible show wpAny _ _ (getMethod (Value.ref _) (Str.ofString "get") _) _ _ _); k_dflt (refine' times_method (by k_asm) (by k_mem) (by k_asm) ?_))
  k_with "getMethod ref" => (k_here; (with_reducible show wpAny _ _ (getMethod (Value.ref _) (Str.ofString "setdefault") _) _ _ _); k_dflt (refine' tab_method PySem.F.slot_dict_setdefault PySem.F.type_dict_setdefault (by k_asm) (by k_asm) ?_))
  k_with "getMethod ref" => (k_here; (with_reducible show wpAny _ _ (getMethod (Value.ref _) (Str.ofString "values") _) _ _ _); k_dflt (refine' tab_method PySem.F.slot_dict_values PySem.F.type_dict_values (by k_asm) (by k_asm) ?_))
  k_with "call builtin:dict.get" => (k_here; k_dflt (refine' times_get (by k_asm) (by k_mem) (by k_asm) (by k_asm) ?_); intro _ _)
  k_with "call builtin:dict.setdefault" => refine stop ?_
  k_with "storeName" => (k_here; k_dflt (refine' storeC (by k_asm) (by k_asm) (by rfl) (by k_mem) (by k_asm) ?_ (by rfl) (by rfl)); refine stop ?_)
  k_with "setItem ref ref" => refine stop ?_
  k_with "compareOp NotEq ref ref" => refine stop ?_
  k_with "compareOp Eq ref ref" => refine stop ?_
  k_with "compareOp In ref ref" => (k_here; k_dflt (refine' in_T (by exact units1 (by omega)) (by k_asm) (by k_asm) (by k_asm) (by first | k_asm | exact rfl) ?_); intro _)
  k_with "subscriptTail" => (k_here; (with_reducible show wpAny _ _ (subscriptTail _ _ (Value.ref _) (Value.ref _)) _ _ _); k_dflt (refine' item_T (by exact units1 (by omega)) (by k_asm) (by k_asm) (by k_asm) (by k_asm) ?_ (by with_unfolding_all rfl) (by intro _; with_unfolding_all rfl)); intro _; (try dsimp only))
  k_with "call builtin:dict.values" => (k_here; k_dflt (refine' values_T (by k_asm) (by k_asm) (by k_asm) ?_); intro _ _ _ _ _)
  k_with "CTurnC" => refine stop ?_
  k_with "call builtin:sorted" => refine stop ?_
  k_with "subscriptTail Name Slice ref ref" => refine stop ?_
  trivial
--@hide
set_option maxHeartbeats 8000000
theorem lay_MLaw1 : True := by
  k_with "TurnR" => refine stop ?_
  k_with "call ref" => ((first | (with_reducible show wpAny _ _ (call (Value.ref 160) _) _ _ _) | (with_reducible show wpAny _ _ (call (Value.ref 165) _) _ _ _) | (with_reducible show wpAny _ _ (call (Value.ref 175) _) _ _ _) | (with_reducible show wpAny _ _ (call (Value.ref 180) _) _ _ _) | (with_reducible show wpAny _ _ (call (Value.ref 71) _) _ _ _) | (with_reducible show wpAny _ _ (call (Value.ref 100) _) _ _ _)); refine stop ?_)
  k_with "setItem ref int" => refine stop ?_
  k_with "setItem ref ref" => refine stop ?_
  k_with "call builtin:list.append" => refine stop ?_
  k_with "call type:list" => refine stop ?_
  k_with "call builtin:len" => (k_here; (with_reducible show wpAny _ _ (call (Value.builtin "len") [Value.ref _]) _ _ _); k_dflt (refine' len_T (by k_asm) (by k_asm) (by assumption) ?_); intro _ _)
  k_with "subscriptTail" => (k_here; (with_reducible show wpAny _ _ (subscriptTail _ _ (Value.ref _) (Value.int 0 _)) _ _ _); k_dflt (refine' item_Tup (by k_asm) (by k_mem) (by k_asm) ?_ (by with_unfolding_all rfl)); intro _)
  k_with "subscriptTail" => ((with_reducible rename SubFlag => setFlag); (with_reducible show wpAny _ _ (subscriptTail _ _ (Value.ref _) (Value.ref _)) _ _ _); refine stop ?_)
  k_with "exec Expr" => ((with_reducible rename SetFlag => setFlag); refine stop ?_)
  k_with "exec For Name Call cons nil" => refine stop ?_
  k_with "exec For Name List cons nil" => refine stop ?_
  trivial
theorem law_row : PySem.Challenge.rw_sm0054_01.row.Holds := Mine.Hd.top (by
  k_fill
  intro w s₀ s₁ mgv mbv G Y fa ofa pm cd doc dV kV ho hdx hcd hD hmg hg args vals as hpre hlay hrd hwl hlo
  have KX := kIn_of Y
  have XP := (Ground.X G).1
  have V := (Ground.X G).2
  refine Ground.open G ?_
  intro T BT D TE TW
  try (refine guard_noD D (by decide +kernel) ?_; clear D)
  obtain ⟨_, _, M⟩ := bmod_of_top T
  have TA := at_of_top T
  try (obtain ⟨_, _, he, B0⟩ := based_of_top T rfl hmg ho hdx; have he' : cd = _ := he; subst he'; clear he)
  clear hmg
  wrow_args hpre hlay hrd hwl hlo
  (first | refine callC_kw (enter_call ?_) | refine enter_call ?_ | refine callC_kw (enter_callW ?_) | refine enter_callW ?_ | w_how)
  w_top on
  try refine codeAny_mono ?_ (fun _ _ g => GoodW.toG g)
  have K0 := below_caller (Top.heap T)
  w_call any ho hdx hcd hD T F
  clear hdx TA
  k_drop
  rename List Value => vs
  rename List Int => ns
  rename Fr _ _ _ _ => F
  rename News _ _ _ _ => N
  rename Below _ _ _ _ => B
  rename Frag.In _ _ => X
  rename Top _ _ _ _ _ _ => T
  rename IntsAre _ _ => hI
  rename Heap.IsList _ _ _ => hL
  rename ¬ _ => hlen
  rename s₁.gens = _ => hg
  rename_i X0
  clear X0
  rename_i o3 o2 o1 d3 d2 d1
  rename Dflts .. => hD
  clear hD
  rename Heap.CodeRec .. => hcd
  clear hcd
  rename_i a7 o6 a5 a4 hs hl0 hlL hrA hl2 la3 la2 sc las ra w1 r0 hrW hcond h₁ tk₁
  refine wpAny_mono (Q := LawEnd s₁) (E := fun _ _ => False) ?_ ?_ fun _ _ e => e.elim
  · replace d3 : o3.data = .cell none := d3
    replace d2 : o2.data = .cell none := d2
    replace d1 : o1.data = .cell none := d1
    replace F : Fr s₁.heap s₁.heap.objs.size h₁ (lMap none sc) := F
    change wpAny (model prog w) (ktrTop _ _ _ _ _ _ _ _ _ _) (execs _ (envX _ _ _ _ _ _)) _ _ _
    have hlen : ns.length ≤ 63 := by omega
    clear G Y ho XP V BT TE TW M hs hl0 hlL hrA hl2 ra w1 r0 hrW hcond
    have hG := hg
    generalize hLs : s₁.heap.objs.size = L at *
    k_steps
    rename_i kd hA l1a hB F1 N1 tp hC oT0 F2 N2 lo hd0 l1b
    refine go (kmk_slice_ints F2 N2 (let ⟨o, e, r⟩ := hL; ⟨o, F2.keep _ _ e, r⟩) (by kmk_part) (by kmk_part) hI (kmk_upto hI (by decide)) rfl (fun rw rvs h3 F3 N3 lt3 iv3 _ _ => ?_) (by with_unfolding_all rfl) (by intro _; with_unfolding_all rfl) (kmk_sz hI (by rw [sizeLine_eq]; omega)))
    clear F1 N1 F2 N2
    k_lt lt3
    k_steps
    rename_i h4 o4 F4 N4 hd4
    refine go ?_
    intro h5 o5 F5 N5 d5
    clear F3 N3 F4 N4 hd0
    obtain ⟨tn0, hd5⟩ : ∃ tn, o4.IsDictOf (strKind prog w) [(Str.ofString "row", .ref rw), (Str.ofString "turn", .int 0 tn)] := ⟨_, hd4⟩
    clear hd4
    have hdp : callerA.depth + 1 ≤ 310 := by decide
    have hun : callerA.units + 3 ≤ 20 := by decide
    have hrl : (ns.take (Int.toNat 63)).length ≤ 63 := List.length_take_le _ _
    generalize ns.take (Int.toNat 63) = rns at iv3 hrl
    obtain ⟨kvs, hkv, mkd⟩ : ∃ kvs, Kinds kvs ∧ (kd, listOf kvs.toArray 0) ∈ (L + 1, o5) :: off (L + 1) _ := ⟨_, ⟨_, _, _, _, _, _, _, rfl⟩, .tail _ (mem_off_of (.tail _ (.tail _ (.head _))) (Nat.ne_of_gt l1a.2.2))⟩
    generalize hNL : (L + 1, o5) :: off (L + 1) _ = NL at N5 mkd
    have mt0 : TapeAt w tp rw rvs NL 0 := hNL ▸ ⟨o4, tn0, 0, .tail _ (mem_off_of (.tail _ (.head _)) (Nat.ne_of_gt l1b.2.2.2)), hd5, .tail _ (mem_off_of (.head _) (Nat.ne_of_gt lt3.2.2.2.2))⟩
    have mc1 : (L + 1, o5) ∈ NL := hNL ▸ .head _
    have mc2 : (L + 1 + 1, o2) ∈ NL := hNL ▸ .tail _ (mem_off_of (.tail _ (.tail _ (.tail _ (.tail _ (.head _))))) (neN (by omega)))
    have mc3 : (L + 1 + 1 + 1, o3) ∈ NL := hNL ▸ .tail _ (mem_off_of (.tail _ (.tail _ (.tail _ (.head _)))) (neN (by omega)))
    clear hNL
    k_steps
    refine go (numS_spec B F5 X N5 T rfl (by exact Nat.le_trans hdp (by decide)) (by exact Nat.le_trans hun (by decide)) mt0 iv3 hrl ⟨by decide, by decide⟩ ⟨by decide, by decide⟩ fun sz0 ts N6 h6 tk6 bs F6 N6n S6 mt6 => ?_)
    clear F5 N5
    k_steps
    refine go (comp_A (by assumption) (by rfl) (by with_unfolding_all rfl) (by with_unfolding_all rfl) (by decide) (by rfl) (by decide) (by rfl) (by rfl) (by rfl) ?_)
    have nc1 : L + 1 ≠ tp := Nat.ne_of_lt l1b.2.2.2
    have nc2 : L + 1 + 1 ≠ tp := Nat.ne_of_lt l1b.2.2.1
    have nc3 : L + 1 + 1 + 1 ≠ tp := Nat.ne_of_lt l1b.2.1
    have nkd : kd ≠ tp := Nat.ne_of_lt l1b.1
    have nc1b := S6.keep _ mc1 (by simpa using nc1)
    have nc2b := S6.keep _ mc2 (by simpa using nc2)
    have nc3b := S6.keep _ mc3 (by simpa using nc3)
    have mkd6 := S6.keep _ mkd (by simpa using nkd)
    k_steps
    rename IsRange _ _ _ _ _ _ _ _ => hr7
    rename IntsAre rvs _ => iv3
    rename Fr _ _ _ _ => F7
    rename News _ _ _ _ => N7
    refine go (comp_range (n := (3 + sz0).toNat) (fun j ys n => Step [tp] N6 n ∧ TapeAt w tp rw rvs n (1 + j) ∧ ∃ ns, IntsAre ys ns ∧ ns.length = j) rfl F7 N7 hr7 (tnB (by decide) bs) (tnD bs (by decide)) ⟨Step.refl, by simpa using mt6, [], .nil, rfl⟩ ?_ ?_)
    · clear F7 N7 hr7
      rintro s8 j v ys n8 I8 oI8 C8 oC8 D8 m8 h8 tk8 E8 hj ⟨t8, rfl⟩ ⟨S8, mt8, ns8, iv8, ln8⟩ hs8 hC8 hx8 F8 N8 off8 ne8
      have off9 : ∀ p ∈ n8, p.1 ≠ I8 ∧ p.1 ≠ C8 ∧ p.1 ≠ D8 := off8
      have sub8 : ∀ p ∈ n8, p ∈ (I8, oI8) :: (C8, oC8) :: (D8, LCg.lst ys) :: n8 := fun p hp => .tail _ (.tail _ (.tail _ hp))
      have mc18 := sub8 _ (S8.keep _ nc1b (by simpa using nc1))
      refine hide fun gP gQ => ?_
      obtain ⟨oT, _, _, mT, _, _⟩ := id mt8
      refine gQ ?_
      clear gQ gP
      k_steps
      refine go (numS_spec B F8 X N8 T rfl (by exact Nat.le_trans hdp (by decide)) (by exact Nat.le_trans hun (by decide)) (mt8.mono sub8) iv3 hrl (by first | exact nb_0 nn0 nn1 bi | exact nb_1 nn0 nn1 bi | exact nb_2 nn0 nn1 bi | exact nb_3 nn0 nn1 bi | exact nb_j2 nn0 nn1 bi bfh hj | exact nb_j3 nn0 nn1 bi bfh hj | exact nb_f3 nn0 nn1 bi bfh | exact ⟨by omega, by omega⟩) ⟨by decide, by decide⟩ fun v9 t9 N9 h9 tk9 b9 F9 N9n S9 mt9 => ?_)
      clear F8 N8
      k_steps
      refine go (cturn_step F9 N9n S9 off9 (by simpa using Ne.symm (off9 _ mT).1) (by simpa using Ne.symm (off9 _ mT).2.1) (by simpa using Ne.symm (off9 _ mT).2.2) (fun _ h => nomatch h) (fun _ h => nomatch h) fun S10 => ⟨S8.trans S10, ?_, ns8 ++ [v9], ksk_snoc iv8, by rw [List.length_append, ln8]; rfl⟩)
      have e9 : (1 + (j : Int) + 1) = 1 + ((j + 1 : Nat) : Int) := eqJ
      rw [← e9]
      exact tape_turn mt8 off9 mt9
    · rintro h10 ys n10 ⟨S10, mt10, ns10, iv10, ln10⟩ pl h11 tk11 F11 N11 off11
      clear F7 N7 hr7
      have N12 : News _ _ h11 ((pl, listOf ys.toArray ys.length) :: n10) := N11
      clear N11
      have lnp : ys.length = (3 + sz0).toNat := by rw [iv10.length, ln10]
      have mplD : (pl, listOf ys.toArray ys.length) ∈ (pl, listOf ys.toArray ys.length) :: n10 := .head _
      k_steps
      refine go (ground_spec B (by assumption) X N12 T rfl (by exact Nat.le_trans hdp (by decide)) (by exact Nat.le_trans hun (by decide)) mplD (by rw [lnp]; exact tnD bs (by decide)) fun g0 dg0 st0 ou0 τ0 k0 c0 h13 tk13 F13 N13 l13 ne13 => ?_)
      clear N12
      have mpl3 : (pl, listOf ys.toArray ys.length) ∈ (g0, instObj 100 dg0) :: (dg0, dictOf (grEs w.params τ0 st0 ou0) k0) :: (st0, listOf ys.toArray c0) :: (ou0, listOf #[] 0) :: (pl, listOf ys.toArray ys.length) :: n10 := .tail _ (.tail _ (.tail _ (.tail _ mplD)))
      k_steps
      refine go (ground_spec B (by assumption) X N13 T rfl (by exact Nat.le_trans hdp (by decide)) (by exact Nat.le_trans hun (by decide)) mpl3 (by rw [lnp]; exact tnD bs (by decide)) fun g1 dg1 st1 ou1 τ1 k1 c1 h14 tk14 F14 N14 l14 ne14 => ?_)
      clear N13
      have mpl4 := List.Mem.tail (g1, instObj 100 dg1) (List.Mem.tail (dg1, dictOf (grEs w.params τ1 st1 ou1) k1) (List.Mem.tail (st1, listOf ys.toArray c1) (List.Mem.tail (ou1, listOf #[] 0) mpl3)))
      k_steps
      rename_i gl hq1 Fq1 Nq1 lq1 kn0 hq2 okn0 lo0 hs0 fs0 hi0 fi0 lq2 kn1 hq3 okn1 lo1 hs1 fs1 hi1 fi1 lq3 kl hq4 lq4 lf hq5 olf lo2 hs2 fs2 hi2 fi2 lq5 tm hq6 otm lo3 hs3 fs3 hi3 fi3 lq6 TT hq7 lq7 hq8 hq9 hqa hqb hqc Fz Nz
      clear Fq1 Nq1 fs0 fi0 fs1 fi1 fs2 fi2 fs3 fi3 lq7
      have mc1c := S10.keep _ nc1b (by simpa using nc1)
      have mc2c := S10.keep _ nc2b (by simpa using nc2)
      have mc3c := S10.keep _ nc3b (by simpa using nc3)
      have mkd10 := S10.keep _ mkd6 (by simpa using nkd)
      refine hide fun gP gQ => ?_
      obtain ⟨oT, tnT, kT, mT1, mT2, mT3⟩ := id mt10
      refine gQ ?_
      clear gQ gP
      have on10 := off1_mem off11
      -- orders
      have q1 := l13 _ (.head _)
      have q2 := l13 _ (.tail _ mc1c)
      have q3 := l13 _ (.tail _ mc2c)
      have q4 := l13 _ (.tail _ mc3c)
      have q5 := l13 _ (.tail _ mkd10)
      have q6 := l13 _ (.tail _ mT1)
      have q7 := l13 _ (.tail _ mT3)
      have r1 := l14 _ (.head _)
      have r2 := l14 _ (.tail _ (.head _))
      have r3 := l14 _ (.tail _ (.tail _ (.head _)))
      have r4 := l14 _ (.tail _ (.tail _ (.tail _ (.head _))))
      have r5 := l14 _ (.tail _ (.tail _ (.tail _ (.tail _ (.head _)))))
      have n1 : pl ≠ tp := fun e => on10 _ mT1 e.symm
      have n2 : pl ≠ rw := fun e => on10 _ mT3 e.symm
      have n3 : pl ≠ kd := fun e => on10 _ mkd10 e.symm
      have n4 : pl ≠ L + 1 := fun e => on10 _ mc1c e.symm
      have n5 : pl ≠ L + 1 + 1 := fun e => on10 _ mc2c e.symm
      have n6 : pl ≠ L + 1 + 1 + 1 := fun e => on10 _ mc3c e.symm
      clear l13 l14
      obtain ⟨hy1, hy2, hy3⟩ := len_first lnp bs
      have IN := init_nums l1a.1 l1b.1 lt3.1 q1 q2 q3 q4 q5 q6 q7 r2 r3 r4 r5 n1 n2 n3 n4 n5 n6 ne13 ne14 lq1.2.1 lq1.2.2.1 lq1.2.2.2.1 lq2.1 lq3.1 lq4.1 lq5.1 lq6.1
      clear q1 q2 q3 q4 q5 q6 q7 r1 r2 r3 r4 r5 n1 n2 n3 n4 n5 n6 lq1 lq2 lq3 lq4 lq5 lq6
      have NZ := sub (news' := (tm, otm) :: (lf, olf) :: (kl, listOf #[Value.ref kn0, Value.ref kn1] 0) :: (kn1, okn1) :: (kn0, okn0) :: (gl, listOf #[Value.ref g0, Value.ref g1] 0) :: (g1, instObj 100 dg1) :: (dg1, dictOf (grEs w.params τ1 st1 ou1) k1) :: (st1, listOf ys.toArray c1) :: (ou1, listOf #[] 0) ::
        (g0, instObj 100 dg0) :: (dg0, dictOf (grEs w.params τ0 st0 ou0) k0) :: (st0, listOf ys.toArray c0) :: (ou0, listOf #[] 0) :: (pl, listOf ys.toArray ys.length) :: n10) Nz fun p hp => .tail _ hp
      clear Nz
      have sub10 : ∀ p ∈ n10, p ∈ (tm, otm) :: (lf, olf) :: (kl, listOf #[Value.ref kn0, Value.ref kn1] 0) :: (kn1, okn1) :: (kn0, okn0) :: (gl, listOf #[Value.ref g0, Value.ref g1] 0) :: (g1, instObj 100 dg1) :: (dg1, dictOf (grEs w.params τ1 st1 ou1) k1) :: (st1, listOf ys.toArray c1) :: (ou1, listOf #[] 0) ::
        (g0, instObj 100 dg0) :: (dg0, dictOf (grEs w.params τ0 st0 ou0) k0) :: (st0, listOf ys.toArray c0) :: (ou0, listOf #[] 0) :: (pl, listOf ys.toArray ys.length) :: n10 := fun p hp => by simp only [List.mem_cons, hp, or_true]
      have sld : kn0 ≠ lf := IN.2.2.2.2.1
      have X0 : LW w L ⟨kd, tp, rw, gl, kl, lf, tm, pl, g0, dg0, st0, ou0, kn0, g1, dg1, st1, ou1, kn1⟩ rvs kvs 0 ((tm, otm) :: (lf, olf) :: (kl, listOf #[Value.ref kn0, Value.ref kn1] 0) :: (kn1, okn1) :: (kn0, okn0) :: (gl, listOf #[Value.ref g0, Value.ref g1] 0) :: (g1, instObj 100 dg1) :: (dg1, dictOf (grEs w.params τ1 st1 ou1) k1) :: (st1, listOf ys.toArray c1) :: (ou1, listOf #[] 0) ::
        (g0, instObj 100 dg0) :: (dg0, dictOf (grEs w.params τ0 st0 ou0) k0) :: (st0, listOf ys.toArray c0) :: (ou0, listOf #[] 0) :: (pl, listOf ys.toArray ys.length) :: n10) (fun _ => 0) 0 ys ns10 [] [] [] [] [] (1 + ((3 + sz0).toNat : Int)) := by
        have mpl9 : LiAt ((tm, otm) :: (lf, olf) :: (kl, listOf #[Value.ref kn0, Value.ref kn1] 0) :: (kn1, okn1) :: (kn0, okn0) :: (gl, listOf #[Value.ref g0, Value.ref g1] 0) :: (g1, instObj 100 dg1) :: (dg1, dictOf (grEs w.params τ1 st1 ou1) k1) :: (st1, listOf ys.toArray c1) :: (ou1, listOf #[] 0) ::
          (g0, instObj 100 dg0) :: (dg0, dictOf (grEs w.params τ0 st0 ou0) k0) :: (st0, listOf ys.toArray c0) :: (ou0, listOf #[] 0) :: (pl, listOf ys.toArray ys.length) :: n10) pl ys := ⟨ys.length, by repeat (first | exact List.Mem.head _ | refine List.Mem.tail _ ?_)⟩
        refine ⟨⟨HI.init ⟨by repeat (first | exact List.Mem.head _ | refine List.Mem.tail _ ?_), τ0, k0, by repeat (first | exact List.Mem.head _ | refine List.Mem.tail _ ?_)⟩ ⟨0, by repeat (first | exact List.Mem.head _ | refine List.Mem.tail _ ?_)⟩ ⟨okn0, lo0, by repeat (first | exact List.Mem.head _ | refine List.Mem.tail _ ?_), IsTab.of_dict hs0, fun _ h => (nomatch h)⟩ ⟨olf, lo2, by repeat (first | exact List.Mem.head _ | refine List.Mem.tail _ ?_), IsTab.of_dict hs2, fun _ h => (nomatch h)⟩ ⟨c0, by repeat (first | exact List.Mem.head _ | refine List.Mem.tail _ ?_)⟩ mpl9 iv10 hy3 (by assumption) IN.2.2.2.2.1 IN.2.2.2.2.2.2.1,
          HI.init ⟨by repeat (first | exact List.Mem.head _ | refine List.Mem.tail _ ?_), τ1, k1, by repeat (first | exact List.Mem.head _ | refine List.Mem.tail _ ?_)⟩ ⟨0, by repeat (first | exact List.Mem.head _ | refine List.Mem.tail _ ?_)⟩ ⟨okn1, lo1, by repeat (first | exact List.Mem.head _ | refine List.Mem.tail _ ?_), IsTab.of_dict hs1, fun _ h => (nomatch h)⟩ ⟨olf, lo2, by repeat (first | exact List.Mem.head _ | refine List.Mem.tail _ ?_), IsTab.of_dict hs2, fun _ h => (nomatch h)⟩ ⟨c1, by repeat (first | exact List.Mem.head _ | refine List.Mem.tail _ ?_)⟩ mpl9 iv10 hy3 (by assumption) IN.2.2.2.2.2.1 IN.2.2.2.2.2.2.2,
          ⟨otm, by repeat (first | exact List.Mem.head _ | refine List.Mem.tail _ ?_), TimesObj.of_dict hi3⟩, lo3, List.nodup_nil, IN.1, IN.2.1, fun _ h => (nomatch h), fun _ h => (nomatch h)⟩, ⟨mt10.mono sub10, ⟨0, by repeat (first | exact List.Mem.head _ | refine List.Mem.tail _ ?_)⟩, ⟨0, by repeat (first | exact List.Mem.head _ | refine List.Mem.tail _ ?_)⟩, ⟨0, sub10 _ mkd10⟩, ⟨o5, sub10 _ mc1c, d5⟩, ⟨o2, none, sub10 _ mc2c, d2⟩, ⟨o3, none, sub10 _ mc3c, d3⟩⟩, fun b hb => ⟨IN.2.2.2.1 b hb, fun _ h => (nomatch h)⟩, IN.2.2.1, ⟨hy1, hy2⟩, ⟨Nat.le_refl _, Nat.le_refl _, Nat.le_refl _⟩, Nat.le_refl _⟩
      clear sub10
      generalize hNI : (tm, otm) :: _ = NI at NZ X0
      clear hNI IN sld on10 mT1 mT2 mT3 mc1c mc2c mc3c mkd10 hs0 hs1 hs2 hs3 hi0 hi1 hi2 hi3 lo0 lo1 lo2 lo3 S10 mt10 off11 mplD mpl3 mpl4 nc1b nc2b nc3b mkd6 S6 mt6 mc1 mc2 mc3 mkd mt0 hd5 d5 d3 d2 d1 lt3 l1b l1a ne13 ne14 lo nc1 nc2 nc3 nkd
      refine go (For_invV s₁.heap (by exact rfl) (by exact rfl) ?_)
      refine X0.unpackK fun cgl ckl ckd oc1 oc2 oc3 x2 x3 mgl mkl mkd mc1 dc1 mc2 dc2 mc3 dc3 => ?_
      k_steps
      refine go (numS_spec B Fz X NZ T rfl (by exact Nat.le_trans hdp (by decide)) (by exact Nat.le_trans hun (by decide)) X0.R.tape iv3 hrl (by first | exact nb_0 nn0 nn1 bi | exact nb_1 nn0 nn1 bi | exact nb_2 nn0 nn1 bi | exact nb_3 nn0 nn1 bi | exact nb_j2 nn0 nn1 bi bfh hj | exact nb_j3 nn0 nn1 bi bfh hj | exact nb_f3 nn0 nn1 bi bfh | exact ⟨by omega, by omega⟩) ⟨by decide, by decide⟩ fun nd td N15 h15 tk15 bd F15 N15n S15 mt15 => ?_)
      have X1 := X0.read NZ S15 mt15
      clear Fz NZ X0 mgl mkl mkd mc1 dc1 mc2 dc2 mc3 dc3
      have bdh := Hid.mk bd
      clear bd
      k_steps
      rename IsRange _ _ _ _ _ _ _ _ => hr16
      rename IntsAre rvs _ => iv3
      rename Fr _ _ _ _ => F16
      rename News _ _ _ _ => N16
      replace bdh := bdh.h
      refine go (for_R (n := (5 + nd).toNat) (DI w L ⟨kd, tp, rw, gl, kl, lf, tm, pl, g0, dg0, st0, ou0, kn0, g1, dg1, st1, ou1, kn1⟩ rvs kvs (lBase (some (.int (3 + sz0) tk6)) sc kd pl gl kl lf tm)) rfl F16 N16 hr16 (tnB (by decide) bdh) (tnD bdh (by decide)) ?_ ?_ ?_)
      · refine ⟨none, none, none, none, none, none, none, none, _, _, _, _, _, _, _, _, _, _, ?_, X1, by omega, by omega⟩
        refine (kMap_of (b := lBase (some (.int (3 + sz0) tk6)) sc kd pl gl kl lf tm) (m := _) fun y _ _ _ _ _ _ _ _ => rfl).trans ?_
        rfl
      · clear X1 F16 N16 hr16 S15 mt15
        rintro i ti m₁ news₁ I h tk oI hi ⟨v1, v2, v3, v4, v5, v6, v7, v8, tms, nt, vals, nz, ups0, ups1, kx0, kx1, lx, nn, rfl, X1, nn0, nn1⟩ nI hI F N
        refine X1.unpackK fun cgl ckl ckd oc1 oc2 oc3 x2 x3 mgl mkl mkd mc1 dc1 mc2 dc2 mc3 dc3 => ?_
        have Ic : I ≠ L + 1 ∧ I ≠ L + 1 + 1 ∧ I ≠ L + 1 + 1 + 1 := ⟨Ne.symm (hI _ mc1), Ne.symm (hI _ mc2), Ne.symm (hI _ mc3)⟩
        have It : I ≠ tp := by obtain ⟨_, _, _, a1, _, _⟩ := X1.R.tape; exact Ne.symm (hI _ a1)
        clear mgl mkl mkd mc1 mc2 mc3 dc1 dc2 dc3
        have X2 := X1.mono (N' := (I, oI) :: news₁) fun p hp => .tail _ hp
        have mI : (I, oI) ∈ (I, oI) :: news₁ := .head _
        have oldI : ∀ q ∈ news₁, q ∈ (I, oI) :: news₁ := fun q hq => .tail _ hq
        have nkd : kd ≠ tp := by have := (LA.nd8 X1.nd).1 kd (by simp); exact this
        have nc1 : L + 1 ≠ tp := by have := (LA.nd8 X1.nd).1 (L + 1) (by simp); exact this
        clear X1 hI
        generalize (I, oI) :: news₁ = N2 at N X2 mI oldI
        refine X2.unpackK fun cgl ckl ckd oc1 oc2 oc3 x2 x3 mgl mkl mkd mc1 dc1 mc2 dc2 mc3 dc3 => ?_
        have bi : i < 8 := by omega
        generalize hR : TurnE _ _ _ I oI [] _ _ = R
        have fin : ∀ n h' tk' m tms nt vals nz ups0 ups1 kx0 kx1 lx nn, Fr s₁.heap L h' m → News s₁.heap L h' n → (I, oI) ∈ n →
            LW w L ⟨kd, tp, rw, gl, kl, lf, tm, pl, g0, dg0, st0, ou0, kn0, g1, dg1, st1, ou1, kn1⟩ rvs kvs (i + 1) n tms nt vals nz ups0 ups1 kx0 kx1 lx nn → 0 ≤ nn → nn ≤ 20 + 20 * ((i : Int) + 1) →
            (∀ y, y ≠ Str.ofString "deed" → y ≠ Str.ofString "kind" → y ≠ Str.ofString "places" → y ≠ Str.ofString "place" → y ≠ Str.ofString "value" → y ≠ Str.ofString "row" → y ≠ Str.ofString "higher" → y ≠ Str.ofString "key" → m y = lBase (some (.int (3 + sz0) tk6)) sc kd pl gl kl lf tm y) → TurnR R .next { heap := h', gens := s₁.gens, drawn := s₁.drawn, toks := tk', os := s₁.os } := by
          intro n h' tk' m tms nt vals nz ups0 ups1 kx0 kx1 lx nn Fx Nx mIT XT b0 b1 hm
          show R _ _
          rw [← hR]
          refine turnE (news' := off I n) Fx Nx ?_ (fun _ h => (nomatch h)) off_ne ⟨_, _, _, _, _, _, _, _, tms, nt, vals, nz, ups0, ups1, kx0, kx1, lx, nn, kMap_of hm, XT.offI Nx mIT nI Ic, b0, by omega⟩
          intro p hp
          rcases List.mem_cons.mp hp with rfl | hp
          · exact mIT
          · exact off_sub _ hp
        clear hR
        change wpAny _ _ _ (TurnR R) _ _
        k_steps
        refine go (numS_spec B F X N T rfl (by exact Nat.le_trans hdp (by decide)) (by exact Nat.le_trans hun (by decide)) X2.R.tape iv3 hrl (by first | exact nb_0 nn0 nn1 bi | exact nb_1 nn0 nn1 bi | exact nb_2 nn0 nn1 bi | exact nb_3 nn0 nn1 bi | exact nb_j2 nn0 nn1 bi bfh hj | exact nb_j3 nn0 nn1 bi bfh hj | exact nb_f3 nn0 nn1 bi bfh | exact ⟨by omega, by omega⟩) ⟨by decide, by decide⟩ fun kn kt N3 h3 tk3 bk F3 N3n S3 mt3 => ?_)
        have X3 := X2.read N S3 mt3
        have mI3 := S3.keep _ mI (by simpa using It)
        have mkd3 := S3.keep _ mkd (by simpa using nkd)
        refine hide fun gP gQ => ?_
        obtain ⟨ks, kst, hks, hkc⟩ := hkv.at bk
        obtain ⟨cpl, mpl⟩ := X3.W.h0.pln
        refine gQ ?_
        clear gQ gP
        have hvl := X3.W.h0.fi.vl
        refine X3.unpackK fun cgl ckl ckd oc1 oc2 oc3 x2 x3 mgl mkl mkd mc1 dc1 mc2 dc2 mc3 dc3 => ?_
        clear F N X2
        k_steps
        rename Fr _ _ _ _ => F4
        rename News _ _ _ _ => N4
        refine go ?_
        intro h5 o5 F5 N5 d5
        have X5 := X3.cell2 (sub (news' := N3) N4 fun p hp => .tail _ hp) mc2 dc2 d5
        replace N5 := sub (news' := (L + 1 + 1, o5) :: off (L + 1 + 1) N3) N5 fun p hp => by
          rcases List.mem_cons.mp hp with rfl | hp
          · exact .head _
          · exact .tail _ (mem_off_of (.tail _ (off_sub _ hp)) (off_ne p hp))
        have mI5 : (I, oI) ∈ (L + 1 + 1, o5) :: off (L + 1 + 1) N3 := .tail _ (mem_off_of mI3 Ic.2.1)
        have mt5 : (L + 1 + 1, o5) ∈ (L + 1 + 1, o5) :: off (L + 1 + 1) N3 := .head _
        clear F4 N4 X3 S3 mt3 mI3 mkd3 mpl mgl mkl mkd mc1 mc2 mc3 dc1 dc2 dc3 hks
        generalize hNL : (L + 1 + 1, o5) :: off (L + 1 + 1) N3 = NA at N5 X5 mI5 mt5
        clear hNL
        refine X5.unpackK fun cgl ckl ckd oc1 ocx oc3 x2 x3 mgl mkl mkd mc1 dc1 mcx dcx mc3 dc3 => ?_
        clear mcx dcx ocx x2
        rcases hkc with rfl | rfl | rfl | rfl | rfl
        · skip
          k_steps
          have b1x := X5.b1
          refine go (numS_spec B F5 X N5 T rfl (by exact Nat.le_trans hdp (by decide)) (by exact Nat.le_trans hun (by decide)) X5.R.tape iv3 hrl (by first | exact nb_0 nn0 nn1 bi | exact nb_1 nn0 nn1 bi | exact nb_2 nn0 nn1 bi | exact nb_3 nn0 nn1 bi | exact nb_j2 nn0 nn1 bi bfh hj | exact nb_j3 nn0 nn1 bi bfh hj | exact nb_f3 nn0 nn1 bi bfh | exact ⟨by omega, by omega⟩) ⟨by omega, by omega⟩ fun lev ltk N6 h6 tk6' bl F6 N6n S6 mt6 => ?_)
          have X6 := X5.read N5 S6 mt6
          have mI6 := S6.keep _ mI5 (by simpa using It)
          have nd8 := (LA.nd8 X5.nd).1
          clear F5 N5 X5 mI5 mt5 S6 mt6 mgl mkl mkd mc1 dc1 mc3 dc3
          refine X6.unpackK fun cgl ckl ckd oc1 oc2 oc3 x2 x3 mgl mkl mkd mc1 dc1 mc2 dc2 mc3 dc3 => ?_
          k_steps
          refine go ?_
          intro h7 o7 F7 N7 d7
          have X7 := X6.cell3 N6n mc3 dc3 d7
          have mI7 : (I, oI) ∈ (L + 1 + 1 + 1, o7) :: off (L + 1 + 1 + 1) N6 := .tail _ (mem_off_of mI6 Ic.2.2)
          have ml7 : (L + 1 + 1 + 1, o7) ∈ (L + 1 + 1 + 1, o7) :: off (L + 1 + 1 + 1) N6 := .head _
          clear F6 N6n X6 mI6 mgl mkl mkd mc1 mc2 mc3 dc1 dc2 dc3
          generalize (L + 1 + 1 + 1, o7) :: off (L + 1 + 1 + 1) N6 = NA at N7 X7 mI7 ml7
          obtain ⟨oc1, mc1, dc1⟩ := X7.R.c1
          k_steps
          refine go (comp_E (by assumption) (by with_unfolding_all rfl) (by decide) (by rfl) (by decide) (by rfl) ?_)
          k_steps
          refine go (numS_spec B F7 X N7 T rfl (by exact Nat.le_trans hdp (by decide)) (by exact Nat.le_trans hun (by decide)) X7.R.tape iv3 hrl (by first | exact nb_0 nn0 nn1 bi | exact nb_1 nn0 nn1 bi | exact nb_2 nn0 nn1 bi | exact nb_3 nn0 nn1 bi | exact nb_j2 nn0 nn1 bi bfh hj | exact nb_j3 nn0 nn1 bi bfh hj | exact nb_f3 nn0 nn1 bi bfh | exact ⟨by omega, by omega⟩) ⟨by decide, by decide⟩ fun fc ft N8 h8 tk8 bf F8 N8n S8 mt8 => ?_)
          have X8 := X7.read N7 S8 mt8
          have mI8 := S8.keep _ mI7 (by simpa using It)
          have ml8 := S8.keep _ ml7 (by simpa using nd8 (L + 1 + 1 + 1) (by simp))
          clear F7 N7 X7 mI7 ml7 mc1 dc1 oc1 S8 mt8
          have bfh := Hid.mk bf
          clear bf
          k_steps
          rename IsRange _ _ _ _ _ _ _ _ => hr9
          rename IntsAre rvs _ => iv3
          rename Fr _ _ _ _ => F9
          rename News _ _ _ _ => N9
          replace bfh := bfh.h
          have nw8 := Hid.mk N9
          have tap8 := X8.R.tape
          obtain ⟨oc1, mc1, dc1⟩ := X8.R.c1
          refine go (comp_range (n := fc.toNat) (fun j ys n => Step [tp] N8 n ∧ TapeAt w tp rw rvs n (nn + 1 + 1 + 1 + j) ∧ ∃ ns, IntsAre ys ns ∧ ns.length = j ∧ ∀ x ∈ ns, lev ≤ x) rfl F9 N9 hr9 (tnA bfh) (tnC bfh (by decide)) ⟨Step.refl, by simpa using tap8, [], .nil, rfl, fun _ h => (nomatch h)⟩ ?_ ?_)
          · clear F9 N9 hr9
            rintro s8 j v ys n8 I8 oI8 C8 oC8 D8 m8 h8 tk8 E8 hj ⟨t8, rfl⟩ ⟨S8, mt8, ns8, iv8, ln8, rn8⟩ hs8 hC8 hx8 F8 N8 off8 ne8
            have off9 : ∀ p ∈ n8, p.1 ≠ I8 ∧ p.1 ≠ C8 ∧ p.1 ≠ D8 := off8
            have sub8 : ∀ p ∈ n8, p ∈ (I8, oI8) :: (C8, oC8) :: (D8, LCg.lst ys) :: n8 := fun p hp => .tail _ (.tail _ (.tail _ hp))
            have mc18 := sub8 _ (S8.keep _ mc1 (by simpa using nc1))
            have ml88 := sub8 _ (S8.keep _ ml8 (by simpa using nd8 (L + 1 + 1 + 1) (by simp)))
            clear mc1 ml8
            refine hide fun gP gQ => ?_
            obtain ⟨oT, _, _, mT, _, _⟩ := id mt8
            refine gQ ?_
            clear gQ gP
            k_steps
            refine go (numS_spec B F8 X N8 T rfl (by exact Nat.le_trans hdp (by decide)) (by exact Nat.le_trans hun (by decide)) (mt8.mono sub8) iv3 hrl (by first | exact nb_0 nn0 nn1 bi | exact nb_1 nn0 nn1 bi | exact nb_2 nn0 nn1 bi | exact nb_3 nn0 nn1 bi | exact nb_j2 nn0 nn1 bi bfh hj | exact nb_j3 nn0 nn1 bi bfh hj | exact nb_f3 nn0 nn1 bi bfh | exact ⟨by omega, by omega⟩) ⟨by decide, by decide⟩ fun v9 t9 N9 h9 tk9 b9 F9 N9n S9 mt9 => ?_)
            clear F8 N8
            k_steps
            refine go (cturn_step F9 N9n S9 off9 (by simpa using Ne.symm (off9 _ mT).1) (by simpa using Ne.symm (off9 _ mT).2.1) (by simpa using Ne.symm (off9 _ mT).2.2) (fun _ h => nomatch h) (fun _ h => nomatch h) fun S10 => ⟨S8.trans S10, ?_, ns8 ++ [lev + v9], ksk_snoc iv8, by rw [List.length_append, ln8]; rfl, fun x hx => ?_⟩)
            · have e9 : nn + 1 + 1 + 1 + (j : Int) + 1 = nn + 1 + 1 + 1 + ((j + 1 : Nat) : Int) := eqJ
              rw [← e9]
              exact tape_turn mt8 off9 mt9
            · rcases List.mem_append.mp hx with hx | hx
              · exact rn8 x hx
              · rw [List.mem_singleton.mp hx]; omega
          · rintro h10 ys n10 ⟨S10, mt10, ns10, iv10, ln10, rn10⟩ hr h11 tk11 F11 N11 off11
            clear F9 N9 hr9
            have X9 := X8.read nw8.h S10 mt10
            have mI9 := S10.keep _ mI8 (by simpa using It)
            have ml9 := S10.keep _ ml8 (by simpa using nd8 (L + 1 + 1 + 1) (by simp))
            clear X8 mI8 ml8 mc1 S10 mt10 nw8
            k_steps
            refine go (ksk_rev (b := true) F11 N11 (isList N11 (n := ys.length) (.head _)) iv10 (by rw [ln10]; omega) fun hv hvs hns ch h12 F12 N12 lt12 iv12 _ pm12 _ _ => ?_)
            clear F11
            have lhn : hns.length ≤ 60 := by rw [pm12.length_eq, ln10]; omega
            have hge : ∀ y ∈ hns, lev ≤ y := fun y hy => rn10 y (pm12.mem_iff.mp hy)
            have hvn : ∀ q ∈ n10, q.1 < hv := fun q hq => lt12 q (.tail _ hq)
            have N13 := sub (news' := (hv, listOf hvs.toArray ch) :: n10) N12 fun p hp => by
              rcases List.mem_cons.mp hp with rfl | hp
              · exact .head _
              · exact .tail _ (.tail _ hp)
            clear N12 N11 lt12 off11
            have X10 := X9.mono (N' := (hv, listOf hvs.toArray ch) :: n10) fun p hp => .tail _ hp
            have mI10 : (I, oI) ∈ (hv, listOf hvs.toArray ch) :: n10 := .tail _ mI9
            have ml10 : (L + 1 + 1 + 1, o7) ∈ (hv, listOf hvs.toArray ch) :: n10 := .tail _ ml9
            have mhv : (hv, listOf hvs.toArray ch) ∈ (hv, listOf hvs.toArray ch) :: n10 := .head _
            have hhlo : hv ∉ [st0, st1, pl, ou0, ou1] := by
              refine hide fun gP gQ => ?_
              obtain ⟨_, p1⟩ := X9.W.h0.stk
              obtain ⟨_, p2⟩ := X9.W.h1.stk
              obtain ⟨_, p3⟩ := X9.W.h0.pln
              obtain ⟨_, p4⟩ := X9.W.h0.fi.li
              obtain ⟨_, p5⟩ := X9.W.h1.fi.li
              refine gQ ?_
              clear gQ gP
              simp only [List.mem_cons, List.not_mem_nil, or_false, not_or]
              exact ⟨Nat.ne_of_gt (hvn _ p1), Nat.ne_of_gt (hvn _ p2), Nat.ne_of_gt (hvn _ p3), Nat.ne_of_gt (hvn _ p4), Nat.ne_of_gt (hvn _ p5)⟩
            have hglo : gl ∉ [st0, st1, pl, ou0, ou1] := fun h => (X9.D gl (by simp)).1 (by simp only [LA.ms, List.mem_cons, List.not_mem_nil, or_false] at h ⊢; rcases h with h | h | h | h | h <;> simp [h])
            have hklo : kl ∉ [st0, st1, pl, ou0, ou1] := fun h => (X9.D kl (by simp)).1 (by simp only [LA.ms, List.mem_cons, List.not_mem_nil, or_false] at h ⊢; rcases h with h | h | h | h | h <;> simp [h])
            have b3x := X9.b3
            clear X9 mI9 ml9 hvn
            generalize (hv, listOf hvs.toArray ch) :: n10 = N10 at N13 X10 mI10 ml10 mhv
            refine X10.unpackK fun cgl ckl ckd oc1 oc2 ocx x2 x3 mgl mkl mkd mc1 dc1 mc2 dc2 mcx dcx => ?_
            clear mcx dcx ocx x3
            have IF : I ∉ lf :: tm :: ou0 :: ou1 :: (twD ups0 lev ++ twD ups1 lev) := by
              refine hide fun gP gQ => ?_
              obtain ⟨_, p1⟩ := X10.W.h0.fi.lt
              obtain ⟨_, p2, p2'⟩ := X10.W.tmo
              obtain ⟨_, p2', _⟩ := p2'
              obtain ⟨_, p3⟩ := X10.W.h0.fi.li
              obtain ⟨_, p4⟩ := X10.W.h1.fi.li
              refine gQ ?_
              clear gQ gP
              simp only [List.mem_cons, List.mem_append, not_or]
              refine ⟨nice_ne N13 mI10 nI p1.mem (nice_tab p1.tab), nice_ne N13 mI10 nI p2 (nice_dict p2'), nice_ne N13 mI10 nI p3 rfl, nice_ne N13 mI10 nI p4 rfl, fun hm => ?_, fun hm => ?_⟩
              · obtain ⟨x, hx, e⟩ := List.mem_map.mp hm
                obtain ⟨_, _, _, p5⟩ := X10.W.h0.fi.ops x ((List.takeWhile_sublist _).subset hx)
                exact nice_ne N13 mI10 nI p5 rfl e.symm
              · obtain ⟨x, hx, e⟩ := List.mem_map.mp hm
                obtain ⟨_, _, _, p5⟩ := X10.W.h1.fi.ops x ((List.takeWhile_sublist _).subset hx)
                exact nice_ne N13 mI10 nI p5 rfl e.symm
            have dw0 := dw_mem (level := lev) X10.W.h0.fi.sorted
            have dw1 := dw_mem (level := lev) X10.W.h1.fi.sorted
            have cellc : L + 1 + 1 + 1 ∉ lf :: tm :: ou0 :: ou1 :: (twD ups0 lev ++ twD ups1 lev) := fun hx => by
              have d := X10.D (L + 1 + 1 + 1) (by simp)
              simp only [LA.ms, List.mem_cons, List.mem_append, List.not_mem_nil, or_false, not_or] at d hx
              rcases hx with h | h | h | h | h | h
              · exact d.1.1 h
              · exact d.1.2.1 h
              · exact d.1.2.2.2.2.2.1 h
              · exact d.1.2.2.2.2.2.2.1 h
              · obtain ⟨x, hx, e⟩ := List.mem_map.mp h
                refine hide fun gP gQ => ?_
                obtain ⟨k, k1, _, _, _, k2⟩ := X10.W.h0.fi.r1 x ((List.takeWhile_sublist _).subset hx)
                refine gQ ?_
                clear gQ gP
                exact d.2 k (.inl k1) (k2.trans e)
              · obtain ⟨x, hx, e⟩ := List.mem_map.mp h
                refine hide fun gP gQ => ?_
                obtain ⟨k, k1, _, _, _, k2⟩ := X10.W.h1.fi.r1 x ((List.takeWhile_sublist _).subset hx)
                refine gQ ?_
                clear gQ gP
                exact d.2 k (.inr k1) (k2.trans e)
            k_steps
            rename Fr _ _ _ _ => Fo
            rename News _ _ _ _ => No
            refine go (closed_spec B Fo X No T rfl (by exact Nat.le_trans hdp (by decide)) (by exact Nat.le_trans hun (by decide)) X10.W (by omega) mgl mkl mhv iv12 lhn hge hglo hklo hhlo fun N14 S14 la14 nt14 h14 tk14 W14 hn14 K14 F14 N14n => ?_)
            have X11 := X10.closed W14 hn14 K14
            have mI11 := K14 _ mI10 IF
            have ml11 := K14 _ ml10 cellc
            clear Fo No X10 mI10 ml10 mhv IF cellc W14 K14 mgl mkl mkd mc1 dc1 mc2 dc2 oc2 x2
            refine X11.unpackK fun cgl ckl ckd oc1 oc2 ocx x2 x3 mgl mkl mkd mc1 dc1 mc2 dc2 mcx dcx => ?_
            clear mcx dcx ocx x3
            k_steps
            refine go (numS_spec B F14 X N14n T rfl (by exact Nat.le_trans hdp (by decide)) (by exact Nat.le_trans hun (by decide)) X11.R.tape iv3 hrl (by first | exact nb_0 nn0 nn1 bi | exact nb_1 nn0 nn1 bi | exact nb_2 nn0 nn1 bi | exact nb_3 nn0 nn1 bi | exact nb_j2 nn0 nn1 bi bfh hj | exact nb_j3 nn0 nn1 bi bfh hj | exact nb_f3 nn0 nn1 bi bfh | exact ⟨by omega, by omega⟩) ⟨by decide, by decide⟩ fun cv ct N6 h15 tk15' bc F15 N15n S15 mt15 => ?_)
            have X6 := X11.read N14n S15 mt15
            have mI6 := S15.keep _ mI11 (by simpa using It)
            have ml6 := S15.keep _ ml11 (by simpa using nd8 (L + 1 + 1 + 1) (by simp))
            clear F14 N14n X11 mI11 ml11 S15 mt15 mgl mkl mkd mc1 dc1 mc2 dc2 oc2 x2
            refine X6.unpackK fun cgl ckl ckd oc1 oc2 ocx x2 x3 mgl mkl mkd mc1 dc1 mc2 dc2 mcx dcx => ?_
            clear mcx dcx ocx x3
            refine hide fun gP gQ => ?_
            obtain ⟨mg0, τg0, kg0, md0⟩ := X6.W.h0.fi.gr
            obtain ⟨mg1, τg1, kg1, md1⟩ := X6.W.h1.fi.gr
            refine gQ ?_
            clear gQ gP
            obtain rfl | rfl : cv = 0 ∨ cv = 1 := two_of bc
            · clear bc mgl mkl mkd mc1 mc2 mg0 mg1 md0 md1
              have XT := X6
              have mIT := mI6
              refine XT.unpackK fun cgl ckl ckd oc1 oc2 oc3 x2 x3 mgl mkl mkd mc1 dc1 mc2 dc2 mc3 dc3 => ?_
              k_steps
              refine go (holds_spec B F15 X N15n T rfl (by exact Nat.le_trans hdp (by decide)) (by exact Nat.le_trans hun (by decide)) XT.W.h0 fun h91 tk91 F91 N91 => ?_)
              clear F15 N15n
              k_steps
              refine go (holds_spec B F91 X N91 T rfl (by exact Nat.le_trans hdp (by decide)) (by exact Nat.le_trans hun (by decide)) XT.W.h1 fun h92 tk92 F92 N92 => ?_)
              clear F91 N91
              k_steps
              refine go (fin _ _ _ _ _ _ _ _ _ _ _ _ _ _ F92 N92 mIT XT (by first | exact fs_1 nn0 | exact fs_2 nn0 | exact fs_3 nn0 | exact fs_4 nn0 | exact fs_f3 nn0 | exact fs_f2 nn0 | omega) (by first | exact fe_1 nn1 | exact fe_2 nn1 | exact fe_3 nn1 | exact fe_4 nn1 | exact fe_f3 nn1 bfh | exact fe_f2 nn1 bfh | omega) ?_)
              intro y e1 e2 e3 e4 e5 e6 e7 e8
              repeat (refine Eq.trans (if_neg (by assumption)) ?_)
              rfl
            · clear bc
              have cellr : L + 1 + 1 + 1 ∉ [st0, st1, pl] := fun hx => by
                have d := (X6.D (L + 1 + 1 + 1) (by simp)).1
                simp only [LA.ms, List.mem_cons, List.not_mem_nil, or_false, not_or] at d hx
                rcases hx with h | h | h
                · exact d.2.2.1 h
                · exact d.2.2.2.1 h
                · exact d.2.2.2.2.1 h
              k_steps
              refine go (For_invV s₁.heap (by exact rfl) (by exact rfl) ?_)
              k_steps
              rename_i hr1 lr hr2 FW NW l6
              have nw6 := Hid.mk NW
              have X6l := X6.mono (N' := (lr, listOf [Value.ref pl, Value.ref st0, Value.ref st1].toArray 0) :: N6) fun p hp => .tail _ hp
              have ls6 := nd5 X6.W.lsts
              have dl1 : pl ≠ st0 := Ne.symm ls6.1.2.1
              have dl2 : pl ≠ st1 := Ne.symm ls6.2.1.1
              have dl3 : st0 ≠ st1 := ls6.1.1
              clear ls6
              have R0 : Rows pl st0 st1 vals (vals.take (max lev 1).toNat) ((lr, listOf [Value.ref pl, Value.ref st0, Value.ref st1].toArray 0) :: N6) ((lr, listOf [Value.ref pl, Value.ref st0, Value.ref st1].toArray 0) :: N6) 0 := ⟨Step.refl, by simpa using X6l.W.h0.pln, by simpa using X6l.W.h0.stk, by simpa using X6l.W.h1.stk⟩
              have lrD : ∀ D, (D = pl ∨ D = st0 ∨ D = st1) → lr ≠ D := fun D hD => by
                refine hide fun gP gQ => ?_
                obtain ⟨_, p1⟩ := X6.W.h0.pln
                obtain ⟨_, p2⟩ := X6.W.h0.stk
                obtain ⟨_, p3⟩ := X6.W.h1.stk
                refine gQ ?_
                clear gQ gP
                rcases hD with rfl | rfl | rfl
                · exact Nat.ne_of_gt (l6 _ p1)
                · exact Nat.ne_of_gt (l6 _ p2)
                · exact Nat.ne_of_gt (l6 _ p3)
              have mIl : (I, oI) ∈ (lr, listOf [Value.ref pl, Value.ref st0, Value.ref st1].toArray 0) :: N6 := .tail _ mI6
              have Irow : I ∉ [st0, st1, pl] := by
                refine hide fun gP gQ => ?_
                obtain ⟨_, p1⟩ := X6.W.h0.pln
                obtain ⟨_, p2⟩ := X6.W.h0.stk
                obtain ⟨_, p3⟩ := X6.W.h1.stk
                refine gQ ?_
                clear gQ gP
                have nw7 := sub (news' := N6) NW fun p hp => .tail _ hp
                simp only [List.mem_cons, List.not_mem_nil, or_false, not_or]
                exact ⟨nice_ne nw7 mI6 nI p2 rfl, nice_ne nw7 mI6 nI p3 rfl, nice_ne nw7 mI6 nI p1 rfl⟩
              have hvl6 := X6.W.h0.fi.vl
              refine go (for_L (fun j m n => ∃ rv, m = (fun y => if y = Str.ofString "row" then rv else ((fun y => if y = Str.ofString "higher" then some (.ref hv) else if y = Str.ofString "kind" then some (.str (Str.ofString "close") kst) else if y = Str.ofString "deed" then some (.int (i : Int) ti) else kMap v1 v2 v3 v4 v5 v6 v7 v8 (lBase (some (.int (3 + sz0) tk6)) sc kd pl gl kl lf tm) y)) y) ∧ Rows pl st0 st1 vals (vals.take (max lev 1).toNat) ((lr, listOf [Value.ref pl, Value.ref st0, Value.ref st1].toArray 0) :: N6) n j) rfl FW NW (.head _) ⟨_, map_self, R0⟩ ?_ ?_)
              · clear FW NW mgl mkl mkd mc1 mc2 mc3 mg0 mg1 md0 md1
                rintro j v m₁ n₁ I₀ h tk oI₀ hv ⟨rv, rfl, R⟩ hmem hI₀ F N
                refine hide fun gP gQ => ?_
                obtain ⟨D, rfl, ⟨cD, mD⟩, hD⟩ := R.get hv
                refine gQ ?_
                clear gQ gP
                have mD2 : (D, listOf vals.toArray cD) ∈ (I₀, oI₀) :: n₁ := .tail _ mD
                have hI₁ : ∀ q ∈ n₁, q.1 ≠ I₀ := hI₀
                have ml8 : (L + 1 + 1 + 1, o7) ∈ (I₀, oI₀) :: n₁ := .tail _ (R.st.keep _ (.tail _ ml6) cellr)
                clear ml6
                k_steps
                rename Fr _ _ _ _ => Fb
                rename News _ _ _ _ => Nb
                rename _ ∧ AllLt _ n₁ => lb
                refine go (cut_T (x := max lev 1) Fb Nb lb mD (by rw [← if_max]; exact IsPart.int _ _) (by omega) (by omega) fun h8 cE F8 N8 => ?_)
                clear Fb Nb
                k_steps
                refine go (turnE (news' := off I₀ ((D, listOf ((vals.take (max lev 1).toNat)).toArray cE) :: off D ((I₀, oI₀) :: n₁))) F8 N8 ?_ ?_ off_ne ⟨_, map_same, R.next hv dl1 dl2 dl3 hI₁⟩)
                · intro p hp
                  rcases List.mem_cons.mp hp with rfl | hp
                  · exact .tail _ (mem_off_of (.head _) (Ne.symm (hI₁ _ mD)))
                  · exact off_sub _ hp
                · intro p hp
                  rw [List.mem_singleton.mp hp]
                  exact mem_off_of (.tail _ (mem_off_of (.tail _ hmem) (lrD D hD))) (hI₁ _ hmem)
              · clear FW NW mgl mkl mkd mc1 mc2 mc3 mg0 mg1 md0 md1
                rintro m₁ n₁ h tk ⟨rv, rfl, R⟩ hmem F N
                have X7 := X6l.newrow (i' := i + 1) nw6.h R (ints_take X6.W.h0.iv _) (Nat.le_refl _) (by rw [List.length_take]; exact len_cut X6.b1) (by rw [List.length_take]; exact cut_60 hvl6) (fun x hx => by rw [List.length_take]; exact cut_rng (X6.W.h0.fi.rng x hx).2 ((dw0 x).mp hx).2) (fun x hx => by rw [List.length_take]; exact cut_rng (X6.W.h1.fi.rng x hx).2 ((dw1 x).mp hx).2)
                have mI7 := R.st.keep _ mIl Irow
                have XT := X7
                have mIT := mI7
                refine XT.unpackK fun cgl ckl ckd oc1 oc2 oc3 x2 x3 mgl mkl mkd mc1 dc1 mc2 dc2 mc3 dc3 => ?_
                k_steps
                refine go (holds_spec B F X N T rfl (by exact Nat.le_trans hdp (by decide)) (by exact Nat.le_trans hun (by decide)) XT.W.h0 fun h91 tk91 F91 N91 => ?_)
                clear F N
                k_steps
                refine go (holds_spec B F91 X N91 T rfl (by exact Nat.le_trans hdp (by decide)) (by exact Nat.le_trans hun (by decide)) XT.W.h1 fun h92 tk92 F92 N92 => ?_)
                clear F91 N91
                k_steps
                refine go (fin _ _ _ _ _ _ _ _ _ _ _ _ _ _ F92 N92 mIT XT (by first | exact fs_1 nn0 | exact fs_2 nn0 | exact fs_3 nn0 | exact fs_4 nn0 | exact fs_f3 nn0 | exact fs_f2 nn0 | omega) (by first | exact fe_1 nn1 | exact fe_2 nn1 | exact fe_3 nn1 | exact fe_4 nn1 | exact fe_f3 nn1 bfh | exact fe_f2 nn1 bfh | omega) ?_)
                intro y e1 e2 e3 e4 e5 e6 e7 e8
                repeat (refine Eq.trans (if_neg (by assumption)) ?_)
                rfl
        · skip
          k_steps
          refine go (numS_spec B F5 X N5 T rfl (by exact Nat.le_trans hdp (by decide)) (by exact Nat.le_trans hun (by decide)) X5.R.tape iv3 hrl (by first | exact nb_0 nn0 nn1 bi | exact nb_1 nn0 nn1 bi | exact nb_2 nn0 nn1 bi | exact nb_3 nn0 nn1 bi | exact nb_j2 nn0 nn1 bi bfh hj | exact nb_j3 nn0 nn1 bi bfh hj | exact nb_f3 nn0 nn1 bi bfh | exact ⟨by omega, by omega⟩) ⟨by decide, by decide⟩ fun pv pt N6 h6 tk6' bp F6 N6n S6 mt6 => ?_)
          have X6 := X5.read N5 S6 mt6
          have mI6 := S6.keep _ mI5 (by simpa using It)
          clear F5 N5 X5 mI5 mt5 S6 mt6 mgl mkl mkd mc1 dc1 mc3 dc3
          refine X6.unpackK fun cgl ckl ckd oc1 oc2 oc3 x2 x3 mgl mkl mkd mc1 dc1 mc2 dc2 mc3 dc3 => ?_
          refine hide fun gP gQ => ?_
          obtain ⟨mg0, τg0, kg0, md0⟩ := X6.W.h0.fi.gr
          obtain ⟨mg1, τg1, kg1, md1⟩ := X6.W.h1.fi.gr
          refine gQ ?_
          clear gQ gP
          k_steps
          refine go (For_invV s₁.heap (by exact rfl) (by exact rfl) ?_)
          k_steps
          rename_i hr1 lr hr2 FW NW l6
          have nw6 := Hid.mk NW
          have X6l := X6.mono (N' := (lr, listOf [Value.ref pl, Value.ref st0, Value.ref st1].toArray 0) :: N6) fun p hp => .tail _ hp
          have ls6 := nd5 X6.W.lsts
          have dl1 : pl ≠ st0 := Ne.symm ls6.1.2.1
          have dl2 : pl ≠ st1 := Ne.symm ls6.2.1.1
          have dl3 : st0 ≠ st1 := ls6.1.1
          clear ls6
          have R0 : Rows pl st0 st1 vals (vals ++ [Value.int pv pt]) ((lr, listOf [Value.ref pl, Value.ref st0, Value.ref st1].toArray 0) :: N6) ((lr, listOf [Value.ref pl, Value.ref st0, Value.ref st1].toArray 0) :: N6) 0 := ⟨Step.refl, by simpa using X6l.W.h0.pln, by simpa using X6l.W.h0.stk, by simpa using X6l.W.h1.stk⟩
          have lrD : ∀ D, (D = pl ∨ D = st0 ∨ D = st1) → lr ≠ D := fun D hD => by
            refine hide fun gP gQ => ?_
            obtain ⟨_, p1⟩ := X6.W.h0.pln
            obtain ⟨_, p2⟩ := X6.W.h0.stk
            obtain ⟨_, p3⟩ := X6.W.h1.stk
            refine gQ ?_
            clear gQ gP
            rcases hD with rfl | rfl | rfl
            · exact Nat.ne_of_gt (l6 _ p1)
            · exact Nat.ne_of_gt (l6 _ p2)
            · exact Nat.ne_of_gt (l6 _ p3)
          have mIl : (I, oI) ∈ (lr, listOf [Value.ref pl, Value.ref st0, Value.ref st1].toArray 0) :: N6 := .tail _ mI6
          have Irow : I ∉ [st0, st1, pl] := by
            refine hide fun gP gQ => ?_
            obtain ⟨_, p1⟩ := X6.W.h0.pln
            obtain ⟨_, p2⟩ := X6.W.h0.stk
            obtain ⟨_, p3⟩ := X6.W.h1.stk
            refine gQ ?_
            clear gQ gP
            have nw7 := sub (news' := N6) NW fun p hp => .tail _ hp
            simp only [List.mem_cons, List.not_mem_nil, or_false, not_or]
            exact ⟨nice_ne nw7 mI6 nI p2 rfl, nice_ne nw7 mI6 nI p3 rfl, nice_ne nw7 mI6 nI p1 rfl⟩
          have hvl6 := X6.W.h0.fi.vl
          refine go (for_L (fun j m n => ∃ rv, m = (fun y => if y = Str.ofString "row" then rv else ((fun y => if y = Str.ofString "value" then some (.int pv pt) else if y = Str.ofString "kind" then some (.str (Str.ofString "push") kst) else if y = Str.ofString "deed" then some (.int (i : Int) ti) else kMap v1 v2 v3 v4 v5 v6 v7 v8 (lBase (some (.int (3 + sz0) tk6)) sc kd pl gl kl lf tm) y)) y) ∧ Rows pl st0 st1 vals (vals ++ [Value.int pv pt]) ((lr, listOf [Value.ref pl, Value.ref st0, Value.ref st1].toArray 0) :: N6) n j) rfl FW NW (.head _) ⟨_, map_self, R0⟩ ?_ ?_)
          · clear FW NW mgl mkl mkd mc1 mc2 mc3 mg0 mg1 md0 md1
            rintro j v m₁ n₁ I₀ h tk oI₀ hv ⟨rv, rfl, R⟩ hmem hI₀ F N
            refine hide fun gP gQ => ?_
            obtain ⟨D, rfl, ⟨cD, mD⟩, hD⟩ := R.get hv
            refine gQ ?_
            clear gQ gP
            have mD2 : (D, listOf vals.toArray cD) ∈ (I₀, oI₀) :: n₁ := .tail _ mD
            have hI₁ : ∀ q ∈ n₁, q.1 ≠ I₀ := hI₀
            k_steps
            refine go (append_L F (front N mD2) (by omega) (.head off_ne) fun h8 F8 N8 => ?_)
            clear F N
            obtain ⟨cE, N8⟩ : ∃ c, News _ _ _ ((D, listOf (vals ++ [Value.int pv pt]).toArray c) :: _) := ⟨_, N8⟩
            k_steps
            refine go (turnE (news' := off I₀ ((D, listOf ((vals ++ [Value.int pv pt])).toArray cE) :: off D ((I₀, oI₀) :: n₁))) F8 N8 ?_ ?_ off_ne ⟨_, map_same, R.next hv dl1 dl2 dl3 hI₁⟩)
            · intro p hp
              rcases List.mem_cons.mp hp with rfl | hp
              · exact .tail _ (mem_off_of (.head _) (Ne.symm (hI₁ _ mD)))
              · exact off_sub _ hp
            · intro p hp
              rw [List.mem_singleton.mp hp]
              exact mem_off_of (.tail _ (mem_off_of (.tail _ hmem) (lrD D hD))) (hI₁ _ hmem)
          · clear FW NW mgl mkl mkd mc1 mc2 mc3 mg0 mg1 md0 md1
            rintro m₁ n₁ h tk ⟨rv, rfl, R⟩ hmem F N
            have X7 := X6l.newrow (i' := i + 1) nw6.h R (ksk_snoc X6.W.h0.iv) (Nat.le_succ _) (by rw [List.length_append, List.length_singleton]; exact len_more X6.b1) (by rw [List.length_append, List.length_singleton]; exact len_60 X6.b1 bi) (fun x hx => by rw [List.length_append, List.length_singleton]; exact Int.lt_of_lt_of_le (X6.W.h0.fi.rng x hx).2 (Int.ofNat_le.mpr (Nat.le_succ _))) (fun x hx => by rw [List.length_append, List.length_singleton]; exact Int.lt_of_lt_of_le (X6.W.h1.fi.rng x hx).2 (Int.ofNat_le.mpr (Nat.le_succ _)))
            have mI7 := R.st.keep _ mIl Irow
            have XT := X7
            have mIT := mI7
            refine XT.unpackK fun cgl ckl ckd oc1 oc2 oc3 x2 x3 mgl mkl mkd mc1 dc1 mc2 dc2 mc3 dc3 => ?_
            k_steps
            refine go (holds_spec B F X N T rfl (by exact Nat.le_trans hdp (by decide)) (by exact Nat.le_trans hun (by decide)) XT.W.h0 fun h91 tk91 F91 N91 => ?_)
            clear F N
            k_steps
            refine go (holds_spec B F91 X N91 T rfl (by exact Nat.le_trans hdp (by decide)) (by exact Nat.le_trans hun (by decide)) XT.W.h1 fun h92 tk92 F92 N92 => ?_)
            clear F91 N91
            k_steps
            refine go (fin _ _ _ _ _ _ _ _ _ _ _ _ _ _ F92 N92 mIT XT (by first | exact fs_1 nn0 | exact fs_2 nn0 | exact fs_3 nn0 | exact fs_4 nn0 | exact fs_f3 nn0 | exact fs_f2 nn0 | omega) (by first | exact fe_1 nn1 | exact fe_2 nn1 | exact fe_3 nn1 | exact fe_4 nn1 | exact fe_f3 nn1 bfh | exact fe_f2 nn1 bfh | omega) ?_)
            intro y e1 e2 e3 e4 e5 e6 e7 e8
            repeat (refine Eq.trans (if_neg (by assumption)) ?_)
            rfl
        · skip
          k_steps
          refine go (comp_A (by assumption) (by rfl) (by with_unfolding_all rfl) (by with_unfolding_all rfl) (by decide) (by rfl) (by decide) (by rfl) (by rfl) (by rfl) ?_)
          have b1x := X5.b1
          k_steps
          refine go (numS_spec B F5 X N5 T rfl (by exact Nat.le_trans hdp (by decide)) (by exact Nat.le_trans hun (by decide)) X5.R.tape iv3 hrl (by first | exact nb_0 nn0 nn1 bi | exact nb_1 nn0 nn1 bi | exact nb_2 nn0 nn1 bi | exact nb_3 nn0 nn1 bi | exact nb_j2 nn0 nn1 bi bfh hj | exact nb_j3 nn0 nn1 bi bfh hj | exact nb_f3 nn0 nn1 bi bfh | exact ⟨by omega, by omega⟩) ⟨by decide, by decide⟩ fun fc ft N6 h6 tk6' bf F6 N6n S6 mt6 => ?_)
          have X6 := X5.read N5 S6 mt6
          have mI6 := S6.keep _ mI5 (by simpa using It)
          have nd8 := (LA.nd8 X5.nd).1
          have mt7 := S6.keep _ mt5 (by simpa using nd8 (L + 1 + 1) (by simp))
          clear F5 N5 X5 mI5 mt5 S6 mt6 mgl mkl mkd mc1 dc1 mc3 dc3
          have bfh := Hid.mk bf
          clear bf
          k_steps
          rename IsRange _ _ _ _ _ _ _ _ => hr7
          rename IntsAre rvs _ => iv3
          rename Fr _ _ _ _ => F7
          rename News _ _ _ _ => N7
          replace bfh := bfh.h
          have nw6 := Hid.mk N7
          have tap6 := X6.R.tape
          obtain ⟨oc1, mc1, dc1⟩ := X6.R.c1
          refine go (comp_range (n := (1 + fc).toNat) (fun j ys n => Step [tp] N6 n ∧ TapeAt w tp rw rvs n (nn + 1 + 1 + j) ∧ ∃ ns, IntsAre ys ns ∧ ns.length = j ∧ ∀ x ∈ ns, 0 ≤ x ∧ x < vals.length) rfl F7 N7 hr7 (tnB (by decide) bfh) (tnD bfh (by decide)) ⟨Step.refl, by simpa using tap6, [], .nil, rfl, fun _ h => (nomatch h)⟩ ?_ ?_)
          · clear F7 N7 hr7
            rintro s8 j v ys n8 I8 oI8 C8 oC8 D8 m8 h8 tk8 E8 hj ⟨t8, rfl⟩ ⟨S8, mt8, ns8, iv8, ln8, rn8⟩ hs8 hC8 hx8 F8 N8 off8 ne8
            have off9 : ∀ p ∈ n8, p.1 ≠ I8 ∧ p.1 ≠ C8 ∧ p.1 ≠ D8 := off8
            have sub8 : ∀ p ∈ n8, p ∈ (I8, oI8) :: (C8, oC8) :: (D8, LCg.lst ys) :: n8 := fun p hp => .tail _ (.tail _ (.tail _ hp))
            have mc18 := sub8 _ (S8.keep _ mc1 (by simpa using nc1))
            have mt78 := sub8 _ (S8.keep _ mt7 (by simpa using nd8 (L + 1 + 1) (by simp)))
            clear mc1 mt7
            refine hide fun gP gQ => ?_
            obtain ⟨oT, _, _, mT, _, _⟩ := id mt8
            refine gQ ?_
            clear gQ gP
            k_steps
            refine go (numS_spec B F8 X N8 T rfl (by exact Nat.le_trans hdp (by decide)) (by exact Nat.le_trans hun (by decide)) (mt8.mono sub8) iv3 hrl (by first | exact nb_0 nn0 nn1 bi | exact nb_1 nn0 nn1 bi | exact nb_2 nn0 nn1 bi | exact nb_3 nn0 nn1 bi | exact nb_j2 nn0 nn1 bi bfh hj | exact nb_j3 nn0 nn1 bi bfh hj | exact nb_f3 nn0 nn1 bi bfh | exact ⟨by omega, by omega⟩) ⟨by omega, by omega⟩ fun v9 t9 N9 h9 tk9 b9 F9 N9n S9 mt9 => ?_)
            clear F8 N8
            k_steps
            refine go (cturn_step F9 N9n S9 off9 (by simpa using Ne.symm (off9 _ mT).1) (by simpa using Ne.symm (off9 _ mT).2.1) (by simpa using Ne.symm (off9 _ mT).2.2) (fun _ h => nomatch h) (fun _ h => nomatch h) fun S10 => ⟨S8.trans S10, ?_, ns8 ++ [v9], ksk_snoc iv8, by rw [List.length_append, ln8]; rfl, fun x hx => ?_⟩)
            · have e9 : nn + 1 + 1 + (j : Int) + 1 = nn + 1 + 1 + ((j + 1 : Nat) : Int) := eqJ
              rw [← e9]
              exact tape_turn mt8 off9 mt9
            · rcases List.mem_append.mp hx with hx | hx
              · exact rn8 x hx
              · rw [List.mem_singleton.mp hx]; exact b9
          · rintro h10 ys n10 ⟨S10, mt10, ns10, iv10, ln10, rn10⟩ pls h11 tk11 F11 N11 off11
            clear F7 N7 hr7
            have X7 := X6.read nw6.h S10 mt10
            have mI7 := S10.keep _ mI6 (by simpa using It)
            clear X6 mI6 mt7 mc1 S10 mt10 nw6
            have on10 := off1_mem off11
            have N12 : News _ _ h11 ((pls, listOf ys.toArray ys.length) :: n10) := N11
            clear N11 off11
            have X8 := X7.mono (N' := (pls, listOf ys.toArray ys.length) :: n10) fun p hp => .tail _ hp
            have mI8 : (I, oI) ∈ (pls, listOf ys.toArray ys.length) :: n10 := .tail _ mI7
            have mpls : (pls, listOf ys.toArray ys.length) ∈ (pls, listOf ys.toArray ys.length) :: n10 := .head _
            have lys : ys.length ≤ 3 := by rw [iv10.length, ln10]; omega
            have hpi : ∀ v ∈ ys, ∃ i t, v = Value.int i t ∧ 0 ≤ i ∧ i < vals.length := fun v hv => by
              obtain ⟨k, u, a, b⟩ := ints_mem iv10 v hv
              exact ⟨k, u, a, rn10 k b⟩
            have plsn : pls ≠ ou0 ∧ pls ≠ ou1 ∧ pls ∉ [ou0, kn0, lf] := by
              refine hide fun gP gQ => ?_
              obtain ⟨_, p1⟩ := X7.W.h0.fi.li
              obtain ⟨_, p2⟩ := X7.W.h1.fi.li
              obtain ⟨_, p3⟩ := X7.W.h0.fi.kt
              obtain ⟨_, p4⟩ := X7.W.h0.fi.lt
              refine gQ ?_
              clear gQ gP
              simp only [List.mem_cons, List.not_mem_nil, or_false, not_or]
              exact ⟨Ne.symm (on10 _ p1), Ne.symm (on10 _ p2), Ne.symm (on10 _ p1), Ne.symm (on10 _ p3.mem), Ne.symm (on10 _ p4.mem)⟩
            have nw8 := Hid.mk N12
            have Iff0 : I ∉ [ou0, kn0, lf] ∧ I ∉ [ou1, kn1, lf] := by
              refine hide fun gP gQ => ?_
              obtain ⟨_, p1⟩ := X8.W.h0.fi.li
              obtain ⟨_, p2⟩ := X8.W.h1.fi.li
              obtain ⟨_, p3⟩ := X8.W.h0.fi.kt
              obtain ⟨_, p4⟩ := X8.W.h0.fi.lt
              obtain ⟨_, p5⟩ := X8.W.h1.fi.kt
              refine gQ ?_
              clear gQ gP
              simp only [List.mem_cons, List.not_mem_nil, or_false, not_or]
              exact ⟨⟨nice_ne N12 mI8 nI p1 rfl, nice_ne N12 mI8 nI p3.mem (nice_tab p3.tab), nice_ne N12 mI8 nI p4.mem (nice_tab p4.tab)⟩, nice_ne N12 mI8 nI p2 rfl, nice_ne N12 mI8 nI p5.mem (nice_tab p5.tab), nice_ne N12 mI8 nI p4.mem (nice_tab p4.tab)⟩
            clear X7 mI7 on10 dc1 oc1
            generalize (pls, listOf ys.toArray ys.length) :: n10 = N8 at N12 X8 mI8 mpls nw8
            obtain ⟨otm, htm, TO⟩ := X8.W.tmo
            have tb := fun (_ : Unit) => nd6 X8.W.tabs
            refine X8.unpackK fun cgl ckl ckd oc1 oc2 oc3 x2 x3 mgl mkl mkd mc1 dc1 mc2 dc2 mc3 dc3 => ?_
            have b2x := X8.b2
            k_steps
            refine go (found_spec B F11 X N12 T rfl (by exact Nat.le_trans hdp (by decide)) (by exact Nat.le_trans hun (by decide)) mpls plsn.1 (by omega) X8.W.h0.fi (by omega) (by omega) hpi htm TO X8.W.tlo (Ne.symm (tb ()).2.2.1.2.2) (Ne.symm (tb ()).2.2.2.2) fun ups0' ke0 le0 NF hF tkF I0 S0 sub0 f0 hke0 hle0 FF NFn => ?_)
            clear F11 N12 mgl mkl mkd mc1 mc2 mc3 dc1 dc2 dc3
            have R9 := X8.rest S0.keep fun b hb => .inl (by
              simp only [List.mem_cons, List.not_mem_nil, or_false] at hb
              simp only [LA.ms, List.mem_cons, List.not_mem_nil, or_false]
              rcases hb with h | h | h <;> simp [h])
            have mI9 := S0.keep _ mI8 Iff0.1
            have mpl9 := S0.keep _ mpls plsn.2.2
            have FI1 := X8.W.fi1 nw8.h I0 S0 f0
            have nwF := Hid.mk NFn
            refine R9.unpackK fun cgl ckl ckd oc1 oc2 oc3 x2 x3 mgl mkl mkd mc1 dc1 mc2 dc2 mc3 dc3 => ?_
            have htm9 : (tm, otm) ∈ NF := S0.keep _ htm (by
              obtain ⟨_, p1⟩ := X8.W.h0.fi.li
              simp only [List.mem_cons, List.not_mem_nil, or_false, not_or]
              exact ⟨ne_mk1 nw8.h htm p1 (by rw [TO.mk1, mk_list]; decide), Ne.symm (tb ()).2.2.1.2.2, Ne.symm (tb ()).2.2.2.2⟩)
            k_steps
            refine go (krv_lit (zs := ys.reverse) FF NFn (isList NFn mpl9) (IsPart.int _ _) (by simp) (fun rv hR FR NR lR => ?_) (by with_unfolding_all rfl) (by intro _; with_unfolding_all rfl) (by rw [List.size_toArray, sizeLine_eq]; omega))
            clear FF NFn
            have FI1' := FI1.mono (N' := (rv, listOf ys.reverse.toArray 0) :: NF) fun p hp => .tail _ hp
            have I0' := I0.mono (N' := (rv, listOf ys.reverse.toArray 0) :: NF) fun p hp => .tail _ hp
            have S0' := S0.trans (step_cons (p := (rv, listOf ys.reverse.toArray 0)))
            have mrv : (rv, listOf ys.reverse.toArray 0) ∈ (rv, listOf ys.reverse.toArray 0) :: NF := .head _
            have mI10 : (I, oI) ∈ (rv, listOf ys.reverse.toArray 0) :: NF := .tail _ mI9
            have htm10 : (tm, otm) ∈ (rv, listOf ys.reverse.toArray 0) :: NF := .tail _ htm9
            have rvn : rv ≠ ou1 := by
              obtain ⟨_, p2⟩ := FI1.li
              exact Nat.ne_of_gt (lR _ p2)
            have hll0 : (lx ++ le0).length ≤ 500 := by rw [List.length_append]; omega
            have hpi' : ∀ v ∈ ys.reverse, ∃ i t, v = Value.int i t ∧ 0 ≤ i ∧ i < vals.length := fun v hv => hpi v (List.mem_reverse.mp hv)
            have lyr : ys.reverse.length ≤ 3 := by rw [List.length_reverse]; exact lys
            have nwR := Hid.mk NR
            clear lR I0 S0 FI1 mpl9 mpls nwF
            generalize (rv, listOf ys.reverse.toArray 0) :: NF = NH at NR FI1' I0' S0' mrv mI10 htm10 nwR
            clear R9 mI9 htm9 htm mI8 mgl mkl mkd mc1 mc2 mc3 dc1 dc2 dc3
            have R10 := X8.rest S0'.keep fun b hb => .inl (by
              simp only [List.mem_cons, List.not_mem_nil, or_false] at hb
              simp only [LA.ms, List.mem_cons, List.not_mem_nil, or_false]
              rcases hb with h | h | h <;> simp [h])
            refine R10.unpackK fun cgl ckl ckd oc1 oc2 oc3 x2 x3 mgl mkl mkd mc1 dc1 mc2 dc2 mc3 dc3 => ?_
            k_steps
            refine go (found_spec B (by assumption) X NR T rfl (by exact Nat.le_trans hdp (by decide)) (by exact Nat.le_trans hun (by decide)) mrv rvn (by omega) FI1' (by omega) hll0 hpi' htm10 TO X8.W.tlo (Ne.symm (tb ()).2.2.2.1.2) (Ne.symm (tb ()).2.2.2.2) fun ups1' ke1 le1 NG hG tkG I1 S1 sub1 f1 hke1 hle1 FG NGn => ?_)
            have X11 := X8.found nw8.h nwR.h NGn I0' S0' f0 I1 S1 f1 (fun v => List.mem_reverse.symm) ⟨lys, lyr⟩ hke0 hle0 hke1
            have mI11 := S1.keep _ mI10 Iff0.2
            clear NR FI1' I0' S0' mrv mI10 htm10 nwR I1 S1 f1 f0 X8 nw8 R10 mgl mkl mkd mc1 mc2 mc3 dc1 dc2 dc3 TO
            have XT := X11
            have mIT := mI11
            refine XT.unpackK fun cgl ckl ckd oc1 oc2 oc3 x2 x3 mgl mkl mkd mc1 dc1 mc2 dc2 mc3 dc3 => ?_
            k_steps
            refine go (holds_spec B FG X NGn T rfl (by exact Nat.le_trans hdp (by decide)) (by exact Nat.le_trans hun (by decide)) XT.W.h0 fun h91 tk91 F91 N91 => ?_)
            clear FG NGn
            k_steps
            refine go (holds_spec B F91 X N91 T rfl (by exact Nat.le_trans hdp (by decide)) (by exact Nat.le_trans hun (by decide)) XT.W.h1 fun h92 tk92 F92 N92 => ?_)
            clear F91 N91
            k_steps
            refine go (fin _ _ _ _ _ _ _ _ _ _ _ _ _ _ F92 N92 mIT XT (by first | exact fs_1 nn0 | exact fs_2 nn0 | exact fs_3 nn0 | exact fs_4 nn0 | exact fs_f3 nn0 | exact fs_f2 nn0 | omega) (by first | exact fe_1 nn1 | exact fe_2 nn1 | exact fe_3 nn1 | exact fe_4 nn1 | exact fe_f3 nn1 bfh | exact fe_f2 nn1 bfh | omega) ?_)
            intro y e1 e2 e3 e4 e5 e6 e7 e8
            repeat (refine Eq.trans (if_neg (by assumption)) ?_)
            rfl
        · skip
          k_steps
          refine go (numS_spec B F5 X N5 T rfl (by exact Nat.le_trans hdp (by decide)) (by exact Nat.le_trans hun (by decide)) X5.R.tape iv3 hrl (by first | exact nb_0 nn0 nn1 bi | exact nb_1 nn0 nn1 bi | exact nb_2 nn0 nn1 bi | exact nb_3 nn0 nn1 bi | exact nb_j2 nn0 nn1 bi bfh hj | exact nb_j3 nn0 nn1 bi bfh hj | exact nb_f3 nn0 nn1 bi bfh | exact ⟨by omega, by omega⟩) ⟨by have := X5.b1; omega, by omega⟩ fun wp wt N6a h6a tk6a bw F6a N6an S6a mt6a => ?_)
          have X6a := X5.read N5 S6a mt6a
          have mI6a := S6a.keep _ mI5 (by simpa using It)
          have b1x := X6a.b1
          clear F5 N5 X5 mI5 mt5 S6a mt6a mgl mkl mkd mc1 dc1 mc3 dc3
          refine X6a.unpackK fun cgl ckl ckd oc1 oc2 oc3 x2 x3 mgl mkl mkd mc1 dc1 mc2 dc2 mc3 dc3 => ?_
          k_steps
          refine go (numS_spec B F6a X N6an T rfl (by exact Nat.le_trans hdp (by decide)) (by exact Nat.le_trans hun (by decide)) X6a.R.tape iv3 hrl (by first | exact nb_0 nn0 nn1 bi | exact nb_1 nn0 nn1 bi | exact nb_2 nn0 nn1 bi | exact nb_3 nn0 nn1 bi | exact nb_j2 nn0 nn1 bi bfh hj | exact nb_j3 nn0 nn1 bi bfh hj | exact nb_f3 nn0 nn1 bi bfh | exact ⟨by omega, by omega⟩) ⟨by decide, by decide⟩ fun pv pt N6 h6 tk6' bp F6 N6n S6 mt6 => ?_)
          have X6 := X6a.read N6an S6 mt6
          have mI6 := S6.keep _ mI6a (by simpa using It)
          clear F6a N6an X6a mI6a S6 mt6 mgl mkl mkd mc1 dc1 mc2 dc2 mc3 dc3
          refine X6.unpackK fun cgl ckl ckd oc1 oc2 oc3 x2 x3 mgl mkl mkd mc1 dc1 mc2 dc2 mc3 dc3 => ?_
          refine hide fun gP gQ => ?_
          obtain ⟨mg0, τg0, kg0, md0⟩ := X6.W.h0.fi.gr
          obtain ⟨mg1, τg1, kg1, md1⟩ := X6.W.h1.fi.gr
          refine gQ ?_
          clear gQ gP
          k_steps
          refine go (For_invV s₁.heap (by exact rfl) (by exact rfl) ?_)
          k_steps
          rename_i tD ha l1z hb hc hd lr hr2 FW NW0 l60
          have NW := sub (news' := (lr, listOf [Value.ref pl, Value.ref st0, Value.ref st1].toArray 0) :: N6) NW0 fun p hp => by
            rcases List.mem_cons.mp hp with rfl | hp
            · exact .head _
            · exact .tail _ (.tail _ hp)
          have l6 := allLt_lt l60.2
          clear NW0 l60
          have nw6 := Hid.mk NW
          have X6l := X6.mono (N' := (lr, listOf [Value.ref pl, Value.ref st0, Value.ref st1].toArray 0) :: N6) fun p hp => .tail _ hp
          have ls6 := nd5 X6.W.lsts
          have dl1 : pl ≠ st0 := Ne.symm ls6.1.2.1
          have dl2 : pl ≠ st1 := Ne.symm ls6.2.1.1
          have dl3 : st0 ≠ st1 := ls6.1.1
          clear ls6
          have R0 : Rows pl st0 st1 vals (vals.set wp.toNat (Value.int pv pt)) ((lr, listOf [Value.ref pl, Value.ref st0, Value.ref st1].toArray 0) :: N6) ((lr, listOf [Value.ref pl, Value.ref st0, Value.ref st1].toArray 0) :: N6) 0 := ⟨Step.refl, by simpa using X6l.W.h0.pln, by simpa using X6l.W.h0.stk, by simpa using X6l.W.h1.stk⟩
          have lrD : ∀ D, (D = pl ∨ D = st0 ∨ D = st1) → lr ≠ D := fun D hD => by
            refine hide fun gP gQ => ?_
            obtain ⟨_, p1⟩ := X6.W.h0.pln
            obtain ⟨_, p2⟩ := X6.W.h0.stk
            obtain ⟨_, p3⟩ := X6.W.h1.stk
            refine gQ ?_
            clear gQ gP
            rcases hD with rfl | rfl | rfl
            · exact Nat.ne_of_gt (l6 _ p1)
            · exact Nat.ne_of_gt (l6 _ p2)
            · exact Nat.ne_of_gt (l6 _ p3)
          have mIl : (I, oI) ∈ (lr, listOf [Value.ref pl, Value.ref st0, Value.ref st1].toArray 0) :: N6 := .tail _ mI6
          have Irow : I ∉ [st0, st1, pl] := by
            refine hide fun gP gQ => ?_
            obtain ⟨_, p1⟩ := X6.W.h0.pln
            obtain ⟨_, p2⟩ := X6.W.h0.stk
            obtain ⟨_, p3⟩ := X6.W.h1.stk
            refine gQ ?_
            clear gQ gP
            have nw7 := sub (news' := N6) NW fun p hp => .tail _ hp
            simp only [List.mem_cons, List.not_mem_nil, or_false, not_or]
            exact ⟨nice_ne nw7 mI6 nI p2 rfl, nice_ne nw7 mI6 nI p3 rfl, nice_ne nw7 mI6 nI p1 rfl⟩
          have hvl6 := X6.W.h0.fi.vl
          refine go (for_L (fun j m n => ∃ rv, m = (fun y => if y = Str.ofString "row" then rv else ((fun y => if y = Str.ofString "place" then some (.int wp wt) else if y = Str.ofString "value" then some (.int pv pt) else if y = Str.ofString "kind" then some (.str (Str.ofString "write") kst) else if y = Str.ofString "deed" then some (.int (i : Int) ti) else kMap v1 v2 v3 v4 v5 v6 v7 v8 (lBase (some (.int (3 + sz0) tk6)) sc kd pl gl kl lf tm) y)) y) ∧ Rows pl st0 st1 vals (vals.set wp.toNat (Value.int pv pt)) ((lr, listOf [Value.ref pl, Value.ref st0, Value.ref st1].toArray 0) :: N6) n j) rfl FW NW (.head _) ⟨_, map_self, R0⟩ ?_ ?_)
          · clear FW NW mgl mkl mkd mc1 mc2 mc3 mg0 mg1 md0 md1
            rintro j v m₁ n₁ I₀ h tk oI₀ hv ⟨rv, rfl, R⟩ hmem hI₀ F N
            refine hide fun gP gQ => ?_
            obtain ⟨D, rfl, ⟨cD, mD⟩, hD⟩ := R.get hv
            refine gQ ?_
            clear gQ gP
            have mD2 : (D, listOf vals.toArray cD) ∈ (I₀, oI₀) :: n₁ := .tail _ mD
            have hI₁ : ∀ q ∈ n₁, q.1 ≠ I₀ := hI₀
            k_steps
            refine go (set_L F (front N mD2) (.head off_ne) ⟨by omega, by omega⟩ (by omega) fun h8 F8 N8 => ?_)
            clear F N
            obtain ⟨cE, N8⟩ : ∃ c, News _ _ _ ((D, listOf (vals.set wp.toNat (Value.int pv pt)).toArray c) :: _) := ⟨_, N8⟩
            k_steps
            refine go (turnE (news' := off I₀ ((D, listOf ((vals.set wp.toNat (Value.int pv pt))).toArray cE) :: off D ((I₀, oI₀) :: n₁))) F8 N8 ?_ ?_ off_ne ⟨_, map_same, R.next hv dl1 dl2 dl3 hI₁⟩)
            · intro p hp
              rcases List.mem_cons.mp hp with rfl | hp
              · exact .tail _ (mem_off_of (.head _) (Ne.symm (hI₁ _ mD)))
              · exact off_sub _ hp
            · intro p hp
              rw [List.mem_singleton.mp hp]
              exact mem_off_of (.tail _ (mem_off_of (.tail _ hmem) (lrD D hD))) (hI₁ _ hmem)
          · clear FW NW mgl mkl mkd mc1 mc2 mc3 mg0 mg1 md0 md1
            rintro m₁ n₁ h tk ⟨rv, rfl, R⟩ hmem F N
            have X7 := X6l.newrow (i' := i + 1) nw6.h R (ints_set X6.W.h0.iv wp.toNat pv pt) (Nat.le_succ _) (by rw [List.length_set]; exact len_same X6.b1) (by rw [List.length_set]; exact hvl6) (fun x hx => by rw [List.length_set]; exact (X6.W.h0.fi.rng x hx).2) (fun x hx => by rw [List.length_set]; exact (X6.W.h1.fi.rng x hx).2)
            have mI7 := R.st.keep _ mIl Irow
            have XT := X7
            have mIT := mI7
            refine XT.unpackK fun cgl ckl ckd oc1 oc2 oc3 x2 x3 mgl mkl mkd mc1 dc1 mc2 dc2 mc3 dc3 => ?_
            k_steps
            refine go (holds_spec B F X N T rfl (by exact Nat.le_trans hdp (by decide)) (by exact Nat.le_trans hun (by decide)) XT.W.h0 fun h91 tk91 F91 N91 => ?_)
            clear F N
            k_steps
            refine go (holds_spec B F91 X N91 T rfl (by exact Nat.le_trans hdp (by decide)) (by exact Nat.le_trans hun (by decide)) XT.W.h1 fun h92 tk92 F92 N92 => ?_)
            clear F91 N91
            k_steps
            refine go (fin _ _ _ _ _ _ _ _ _ _ _ _ _ _ F92 N92 mIT XT (by first | exact fs_1 nn0 | exact fs_2 nn0 | exact fs_3 nn0 | exact fs_4 nn0 | exact fs_f3 nn0 | exact fs_f2 nn0 | omega) (by first | exact fe_1 nn1 | exact fe_2 nn1 | exact fe_3 nn1 | exact fe_4 nn1 | exact fe_f3 nn1 bfh | exact fe_f2 nn1 bfh | omega) ?_)
            intro y e1 e2 e3 e4 e5 e6 e7 e8
            repeat (refine Eq.trans (if_neg (by assumption)) ?_)
            rfl
        · skip
          obtain ⟨olf, TL5⟩ := X5.W.h0.fi.lt
          have hzl : (lfTab lx).length ≤ 1000000 := by have := X5.b2; rw [lfTab, List.length_map]; omega
          have hzm : (lfTab lx).length ≤ 1000 := by have := X5.b2; rw [lfTab, List.length_map]; omega
          rcases Nat.eq_zero_or_pos (lfTab lx).length with hl0 | hl0
          · clear mgl mkl mkd mc1 mc3 dc1 dc3
            have X5l := X5.later (Nat.le_succ i)
            have XT := X5l
            have mIT := mI5
            refine XT.unpackK fun cgl ckl ckd oc1 oc2 oc3 x2 x3 mgl mkl mkd mc1 dc1 mc2 dc2 mc3 dc3 => ?_
            k_steps
            refine go (holds_spec B F5 X N5 T rfl (by exact Nat.le_trans hdp (by decide)) (by exact Nat.le_trans hun (by decide)) XT.W.h0 fun h91 tk91 F91 N91 => ?_)
            clear F5 N5
            k_steps
            refine go (holds_spec B F91 X N91 T rfl (by exact Nat.le_trans hdp (by decide)) (by exact Nat.le_trans hun (by decide)) XT.W.h1 fun h92 tk92 F92 N92 => ?_)
            clear F91 N91
            k_steps
            refine go (fin _ _ _ _ _ _ _ _ _ _ _ _ _ _ F92 N92 mIT XT (by first | exact fs_1 nn0 | exact fs_2 nn0 | exact fs_3 nn0 | exact fs_4 nn0 | exact fs_f3 nn0 | exact fs_f2 nn0 | omega) (by first | exact fe_1 nn1 | exact fe_2 nn1 | exact fe_3 nn1 | exact fe_4 nn1 | exact fe_f3 nn1 bfh | exact fe_f2 nn1 bfh | omega) ?_)
            intro y e1 e2 e3 e4 e5 e6 e7 e8
            repeat (refine Eq.trans (if_neg (by assumption)) ?_)
            rfl
          · k_steps
            refine go (list_T rfl F5 N5 TL5 hzl fun ll cll h6 tk6' F6 N6 lt6 => ?_)
            have X6 := X5.mono (N' := (ll, listOf ((lfTab lx).map fun x => Value.ref x.2.1).toArray cll) :: NA) fun p hp => .tail _ hp
            have mI6 : (I, oI) ∈ (ll, listOf ((lfTab lx).map fun x => Value.ref x.2.1).toArray cll) :: NA := .tail _ mI5
            have mll : (ll, listOf ((lfTab lx).map fun x => Value.ref x.2.1).toArray cll) ∈ (ll, listOf ((lfTab lx).map fun x => Value.ref x.2.1).toArray cll) :: NA := .head _
            have lltp : ll ≠ tp := by
              refine hide fun gP gQ => ?_
              obtain ⟨_, _, _, a1, _, _⟩ := X5.R.tape
              refine gQ ?_
              clear gQ gP
              exact Nat.ne_of_gt (lt6 _ a1)
            clear F5 N5 X5 mI5 mt5 lt6 TL5 mgl mkl mkd mc1 dc1 mc3 dc3
            generalize (ll, listOf ((lfTab lx).map fun x => Value.ref x.2.1).toArray cll) :: NA = N6l at N6 X6 mI6 mll
            obtain ⟨olf, TL6⟩ := X6.W.h0.fi.lt
            refine X6.unpackK fun cgl ckl ckd oc1 oc2 oc3 x2 x3 mgl mkl mkd mc1 dc1 mc2 dc2 mc3 dc3 => ?_
            k_steps
            refine go (numS_spec B F6 X N6 T rfl (by exact Nat.le_trans hdp (by decide)) (by exact Nat.le_trans hun (by decide)) X6.R.tape iv3 hrl (by first | exact nb_0 nn0 nn1 bi | exact nb_1 nn0 nn1 bi | exact nb_2 nn0 nn1 bi | exact nb_3 nn0 nn1 bi | exact nb_j2 nn0 nn1 bi bfh hj | exact nb_j3 nn0 nn1 bi bfh hj | exact nb_f3 nn0 nn1 bi bfh | exact ⟨by omega, by omega⟩) ⟨by omega, by omega⟩ fun kv kvt N7 h7 tk7 bk7 F7 N7n S7 mt7 => ?_)
            have X7 := X6.read N6 S7 mt7
            have mI7 := S7.keep _ mI6 (by simpa using It)
            have mll7 := S7.keep _ mll (by simpa using lltp)
            clear F6 N6 X6 mI6 mll S7 mt7 TL6 mgl mkl mkd mc1 dc1 mc2 dc2 mc3 dc3
            obtain ⟨e, hev, hem⟩ : ∃ e : En, ((lfTab lx).map fun x => Value.ref x.2.1)[kv.toNat]? = some (Value.ref e.ka) ∧ e ∈ lx := by
              have hlt : kv.toNat < lx.length := by have : (lfTab lx).length = lx.length := List.length_map ..; omega
              refine ⟨lx[kv.toNat], ?_, List.getElem_mem hlt⟩
              rw [List.getElem?_map, lfTab, List.getElem?_map, List.getElem?_eq_getElem hlt]
              rfl
            refine X7.unpackK fun cgl ckl ckd oc1 oc2 oc3 x2 x3 mgl mkl mkd mc1 dc1 mc2 dc2 mc3 dc3 => ?_
            k_steps
            refine go (numS_spec B (by assumption) X N7n T rfl (by exact Nat.le_trans hdp (by decide)) (by exact Nat.le_trans hun (by decide)) X7.R.tape iv3 hrl (by first | exact nb_0 nn0 nn1 bi | exact nb_1 nn0 nn1 bi | exact nb_2 nn0 nn1 bi | exact nb_3 nn0 nn1 bi | exact nb_j2 nn0 nn1 bi bfh hj | exact nb_j3 nn0 nn1 bi bfh hj | exact nb_f3 nn0 nn1 bi bfh | exact ⟨by omega, by omega⟩) ⟨by decide, by decide⟩ fun sv st N8 h8 tk8 bs8 F8 N8n S8 mt8 => ?_)
            have X8 := X7.read N7n S8 mt8
            have mI8 := S8.keep _ mI7 (by simpa using It)
            clear F7 N7n X7 mI7 mll7 S8 mt8 hev mgl mkl mkd mc1 dc1 mc2 dc2 mc3 dc3
            have flag : SetFlag := trivial
            k_steps
            rename SetFlag => sf
            clear sf
            rename Fr _ _ _ _ => F9
            rename News _ _ _ _ => N9
            have N9n := sub (news' := N8) N9 fun p hp => .tail _ hp
            clear N9
            refine hide fun gP gQ => ?_
            obtain ⟨olf, TL⟩ := X8.W.h0.fi.lt
            obtain ⟨okn0, TK0⟩ := X8.W.h0.fi.kt
            obtain ⟨okn1, TK1⟩ := X8.W.h1.fi.kt
            obtain ⟨k0, hk0, hkk0, hc0⟩ := X8.W.h0.ex e hem
            obtain ⟨k1, hk1, hkk1, hc1⟩ := X8.W.h1.ex e hem
            have mke : KeyIn prog w N8 e.key e.ka := TL.keys _ (List.mem_map_of_mem hem)
            have hatL : atKey (lfTab lx) e.key = some (e.ka, .ref e.la) := atKey_of_mem TL.tab.nodup (mem_lfTab.mpr ⟨e, hem, rfl, rfl⟩)
            have hat0 : atKey (knTab kx0) e.key = some (k0.ka, .ref k0.u) := atKey_of_mem TK0.tab.nodup (mem_knTab.mpr ⟨k0, hk0, hkk0, rfl⟩)
            have hat1 : atKey (knTab kx1) e.key = some (k1.ka, .ref k1.u) := atKey_of_mem TK1.tab.nodup (mem_knTab.mpr ⟨k1, hk1, hkk1, rfl⟩)
            have hin0 := X8.W.h0.fi.ins k0 hk0
            have hin1 := X8.W.h1.fi.ins k1 hk1
            obtain ⟨mu0, P0, τu0, thu0, ixu0, vu0, cu0, md0⟩ := id hin0
            obtain ⟨mu1, P1, τu1, thu1, ixu1, vu1, cu1, md1⟩ := id hin1
            obtain ⟨oke, hoke, tupe⟩ := id mke
            refine gQ ?_
            clear gQ gP
            replace TL : TabAt prog w N8 lf olf (lfTab lx) := TL
            replace TK0 : TabAt prog w N8 kn0 okn0 (knTab kx0) := TK0
            replace TK1 : TabAt prog w N8 kn1 okn1 (knTab kx1) := TK1
            refine X8.unpackK fun cgl ckl ckd oc1 oc2 oc3 x2 x3 mgl mkl mkd mc1 dc1 mc2 dc2 mc3 dc3 => ?_
            refine go ?_
            have flag : SubFlag := trivial
            k_steps
            refine go (item_T2 (units1 (by omega)) N9n TK0 mke hat0 (fun tki => ?_) (by with_unfolding_all rfl))
            dsimp only
            k_steps
            have vl8 := X8.W.h0.fi.vl
            cases hc : e.c with
            | none =>
              have het : e.t = tms e.p := (X8.W.h0.opn e hem).mp hc
              refine hide fun gP gQ => ?_
              obtain ⟨kp0, kt0⟩ := key_inj hkk0
              obtain ⟨kp1, kt1⟩ := key_inj hkk1
              obtain ⟨x0, hx0, ix0, xu0, xd0⟩ := X8.W.h0.fi.r3 k0 hk0 (by rw [kt0, kp0, het])
              obtain ⟨x1, hx1, ix1, xu1, xd1⟩ := X8.W.h1.fi.r3 k1 hk1 (by rw [kt1, kp1, het])
              refine gQ ?_
              clear gQ gP
              have rg0 := X8.W.h0.fi.rng x0 hx0
              have up0 := X8.W.h0.fi.ops x0 hx0
              have up1 := X8.W.h1.fi.ops x1 hx1
              rw [ix0, kp0] at rg0
              rw [xu0, xd0, ix0, kp0] at up0
              rw [xu1, xd1, ix1, kp1] at up1
              refine hide fun gP gQ => ?_
              obtain ⟨cs0, ms0⟩ := X8.W.h0.stk
              obtain ⟨cs1, ms1⟩ := X8.W.h1.stk
              obtain ⟨cpl, mp0⟩ := X8.W.h0.pln
              obtain ⟨cla, mla⟩ := X8.W.h0.fi.las e hem
              refine gQ ?_
              clear gQ gP
              rw [hc] at mla
              have gr1 := X8.W.h1.fi.gr
              have ls8 := nd5 X8.W.lsts
              have d01 : st0 ≠ st1 := ls8.1.1
              have d0p : st0 ≠ pl := ls8.1.2.1
              have d1p : st1 ≠ pl := ls8.2.1.1
              have lal := ni5 (X8.W.las e hem)
              have hIs : I ≠ st0 ∧ I ≠ st1 ∧ I ≠ pl := ⟨nice_ne N9n mI8 nI ms0 rfl, nice_ne N9n mI8 nI ms1 rfl, nice_ne N9n mI8 nI mp0 rfl⟩
              have nw8 := Hid.mk N9n
              have S1 : Step [st0] N8 ((st0, listOf (vals.set e.p.toNat (Value.int sv st)).toArray cs0) :: off st0 N8) := step_front
              have m1 : (st0, listOf (vals.set e.p.toNat (Value.int sv st)).toArray cs0) ∈ (st0, listOf (vals.set e.p.toNat (Value.int sv st)).toArray cs0) :: off st0 N8 := .head _
              have hf0 := one_list ms0
              refine go (setOpen_spec B F9 X (front N9n ms0) T rfl (by exact Nat.le_trans hdp (by decide)) (by exact Nat.le_trans hun (by decide)) off_ne (keep_upAt N9n keep_off hf0 up0) (keep_grAt N9n keep_off hf0 X8.W.h0.fi.gr) rg0.1 rg0.2 (by omega) fun hS tkS FS NS => ?_)
              clear F9 N9n mgl mkl mkd mc1 mc2 mc3 mu0 md0 mu1 md1
              generalize (st0, listOf (vals.set e.p.toNat (Value.int sv st)).toArray cs0) :: off st0 N8 = N1 at NS S1 m1
              have R1 := X8.rest S1.keep fun b hb => .inl (by rw [List.mem_singleton.mp hb]; simp [LA.ms])
              replace TK1 := keep_tab nw8.h S1.keep hf0 TK1
              replace TL := keep_tab nw8.h S1.keep hf0 TL
              replace mke := mke.keep nw8.h S1.keep (list_noTups hf0)
              replace up1 := keep_upAt nw8.h S1.keep hf0 up1
              replace gr1 := keep_grAt nw8.h S1.keep hf0 gr1
              replace ms1 := keep_one S1.keep ms1 (Ne.symm d01)
              replace mp0 := keep_one S1.keep mp0 (Ne.symm d0p)
              replace mla := keep_one S1.keep mla lal.1
              obtain ⟨mu1, τu1, cu1, md1⟩ := id up1
              refine R1.unpackK fun cgl ckl ckd oc1 oc2 oc3 x2 x3 mgl mkl mkd mc1 dc1 mc2 dc2 mc3 dc3 => ?_
              k_steps
              refine go (item_T2 (units1 (by omega)) NS TK1 mke hat1 (fun tki => ?_) (by with_unfolding_all rfl))
              dsimp only
              k_steps
              have nw1 := Hid.mk NS
              have S2 : Step [st1] N1 ((st1, listOf (vals.set e.p.toNat (Value.int sv st)).toArray cs1) :: off st1 N1) := step_front
              have m2 : (st1, listOf (vals.set e.p.toNat (Value.int sv st)).toArray cs1) ∈ (st1, listOf (vals.set e.p.toNat (Value.int sv st)).toArray cs1) :: off st1 N1 := .head _
              have hf1 := one_list ms1
              refine go (setOpen_spec B FS X (front NS ms1) T rfl (by exact Nat.le_trans hdp (by decide)) (by exact Nat.le_trans hun (by decide)) off_ne (keep_upAt NS keep_off hf1 up1) (keep_grAt NS keep_off hf1 gr1) rg0.1 rg0.2 (by omega) fun hS2 tkS2 FS2 NS2 => ?_)
              clear FS NS mgl mkl mkd mc1 mc2 mc3 mu1 md1
              generalize (st1, listOf (vals.set e.p.toNat (Value.int sv st)).toArray cs1) :: off st1 N1 = N2 at NS2 S2 m2
              have R2 := R1.keep S2.keep fun b hb hx => (X8.D b hb).1 (by rw [List.mem_singleton.mp hx]; simp [LA.ms])
              replace TL := keep_tab nw1.h S2.keep hf1 TL
              replace mke := mke.keep nw1.h S2.keep (list_noTups hf1)
              replace mp0 := keep_one S2.keep mp0 (Ne.symm d1p)
              replace mla := keep_one S2.keep mla lal.2.1
              clear hoke tupe
              obtain ⟨oke, hoke, tupe⟩ := id mke
              refine R2.unpackK fun cgl ckl ckd oc1 oc2 oc3 x2 x3 mgl mkl mkd mc1 dc1 mc2 dc2 mc3 dc3 => ?_
              k_steps
              refine go (item_T2 (units1 (by omega)) NS2 TL mke hatL (fun tki => ?_) (by with_unfolding_all rfl))
              dsimp only
              k_steps
              rename Fr _ _ _ _ => F3
              rename News _ _ _ _ => N3
              refine go (eq_nil (b := true) N3 (.tail _ mla) (.head _) .nil rfl (units64 (by omega)) ?_)
              replace N3 := sub (news' := N2) N3 fun p hp => .tail _ hp
              k_steps
              have S3 : Step [pl] N2 ((pl, listOf (vals.set e.p.toNat (Value.int sv st)).toArray cpl) :: off pl N2) := step_front
              refine go (set_L F3 (front N3 mp0) (.head off_ne) ⟨rg0.1, rg0.2⟩ (by omega) fun hS3 FS3 NS3 => ?_)
              have X9 := X8.newrow (i' := i + 1) nw8.h (Rows.three S1 S2 S3 m1 m2 (.head _) d01 d0p d1p) (ints_set X8.W.h0.iv e.p.toNat sv st) (by omega) (by have := X8.b1; rw [List.length_set]; omega) (by rw [List.length_set]; omega) (fun x hx => by have := (X8.W.h0.fi.rng x hx).2; rw [List.length_set]; omega) (fun x hx => by have := (X8.W.h1.fi.rng x hx).2; rw [List.length_set]; omega)
              have mI9 := keep_one S3.keep (keep_one S2.keep (keep_one S1.keep mI8 hIs.1) hIs.2.1) hIs.2.2
              clear F3 N3 X8 S1 S2 S3 m1 m2 R1 R2 TL TK0 TK1 mke hoke tupe mla mp0 mI8 nw8 nw1 ms0 ms1 mgl mkl mkd mc1 mc2 mc3 dc1 dc2 dc3
              rename SubFlag => sf
              clear sf
              have XT := X9
              have mIT := mI9
              refine XT.unpackK fun cgl ckl ckd oc1 oc2 oc3 x2 x3 mgl mkl mkd mc1 dc1 mc2 dc2 mc3 dc3 => ?_
              k_steps
              refine go (holds_spec B FS3 X NS3 T rfl (by exact Nat.le_trans hdp (by decide)) (by exact Nat.le_trans hun (by decide)) XT.W.h0 fun h91 tk91 F91 N91 => ?_)
              clear FS3 NS3
              k_steps
              refine go (holds_spec B F91 X N91 T rfl (by exact Nat.le_trans hdp (by decide)) (by exact Nat.le_trans hun (by decide)) XT.W.h1 fun h92 tk92 F92 N92 => ?_)
              clear F91 N91
              k_steps
              refine go (fin _ _ _ _ _ _ _ _ _ _ _ _ _ _ F92 N92 mIT XT (by first | exact fs_1 nn0 | exact fs_2 nn0 | exact fs_3 nn0 | exact fs_4 nn0 | exact fs_f3 nn0 | exact fs_f2 nn0 | omega) (by first | exact fe_1 nn1 | exact fe_2 nn1 | exact fe_3 nn1 | exact fe_4 nn1 | exact fe_f3 nn1 bfh | exact fe_f2 nn1 bfh | omega) ?_)
              intro y e1 e2 e3 e4 e5 e6 e7 e8
              repeat (refine Eq.trans (if_neg (by assumption)) ?_)
              rfl
            | some cv =>
              have hcn : e.c ≠ none := by rw [hc]; exact fun h => nomatch h
              refine hide fun gP gQ => ?_
              obtain ⟨up0, ci, ct, rfl⟩ := hc0 cv hc
              obtain ⟨up1, -⟩ := hc1 _ hc
              obtain ⟨ui0, τ0, cu0, ud0⟩ := up0
              obtain ⟨ui1, τ1, cu1, ud1⟩ := up1
              obtain ⟨cla, mla⟩ := X8.W.h0.fi.las e hem
              refine gQ ?_
              clear gQ gP
              rw [hc] at mla
              have kq0 := ni6 (X8.W.kd k0 (List.mem_append_left _ hk0))
              have kq1 := ni6 (X8.W.kd k1 (List.mem_append_right _ hk1))
              have dd : k0.d ≠ k1.d := (List.nodup_append.mp X8.W.dd).2.2 _ (List.mem_map_of_mem hk0) _ (List.mem_map_of_mem hk1)
              have hIs : I ≠ k0.d ∧ I ≠ k1.d ∧ I ≠ lf := ⟨nice_ne N9n mI8 nI ud0 rfl, nice_ne N9n mI8 nI ud1 rfl, nice_ne N9n mI8 nI TL.mem (nice_tab TL.tab)⟩
              have mt0 : ∀ b ∈ [k0.d], Mut N8 b := fun b hb => by rw [List.mem_singleton.mp hb]; exact Mut.up ud0
              have lad0 : e.la ≠ k0.d := ne_mk1 N9n mla ud0 (by rw [mk_list, mk_up]; decide)
              have lad1 : e.la ≠ k1.d := ne_mk1 N9n mla ud1 (by rw [mk_list, mk_up]; decide)
              have ud00 : k0.u ≠ k0.d := (mt0 _ (.head _)).ne_inst N9n ui0
              have ud10 : k1.u ≠ k0.d := (mt0 _ (.head _)).ne_inst N9n ui1
              have ud01 : k0.u ≠ k1.d := (Mut.up ud1).ne_inst N9n ui0
              have ud11 : k1.u ≠ k1.d := (Mut.up ud1).ne_inst N9n ui1
              have nw8 := Hid.mk N9n
              have S1 : Step [k0.d] N8 ((k0.d, dictOf (upEs w.params τ0 .none (-1) (Value.int sv st)) cu0) :: off k0.d N8) := step_front
              have m1 : (k0.d, dictOf (upEs w.params τ0 .none (-1) (Value.int sv st)) cu0) ∈ (k0.d, dictOf (upEs w.params τ0 .none (-1) (Value.int sv st)) cu0) :: off k0.d N8 := .head _
              refine go (setShut_spec B F9 X (front N9n ud0) T rfl (by exact Nat.le_trans hdp (by decide)) (by exact Nat.le_trans hun (by decide)) off_ne (mem_off_of ui0 ud00) fun hS tkS FS NS => ?_)
              clear F9 N9n mgl mkl mkd mc1 mc2 mc3 mu0 md0 mu1 md1
              generalize (k0.d, dictOf (upEs w.params τ0 .none (-1) (Value.int sv st)) cu0) :: off k0.d N8 = N1 at NS S1 m1
              have R1 := X8.rest S1.keep fun b hb => .inr ⟨k0, List.mem_append_left _ hk0, (List.mem_singleton.mp hb).symm⟩
              replace TK1 := TK1.keep nw8.h S1.keep (Mut.noTup mt0) (by simpa using Ne.symm kq0.2.2.2.1)
              replace TL := TL.keep nw8.h S1.keep (Mut.noTup mt0) (by simpa using Ne.symm kq0.2.2.2.2.1)
              replace mke := mke.keep nw8.h S1.keep (Mut.noTup mt0)
              replace ui0 := keep_one S1.keep ui0 ud00
              replace ui1 := keep_one S1.keep ui1 ud10
              replace ud1 := keep_one S1.keep ud1 (Ne.symm dd)
              replace mla := keep_one S1.keep mla lad0
              have mt1 : ∀ b ∈ [k1.d], Mut N1 b := fun b hb => by rw [List.mem_singleton.mp hb]; exact Mut.up ud1
              refine R1.unpackK fun cgl ckl ckd oc1 oc2 oc3 x2 x3 mgl mkl mkd mc1 dc1 mc2 dc2 mc3 dc3 => ?_
              k_steps
              refine go (item_T2 (units1 (by omega)) NS TK1 mke hat1 (fun tki => ?_) (by with_unfolding_all rfl))
              dsimp only
              k_steps
              have nw1 := Hid.mk NS
              have S2 : Step [k1.d] N1 ((k1.d, dictOf (upEs w.params τ1 .none (-1) (Value.int sv st)) cu1) :: off k1.d N1) := step_front
              have m2 : (k1.d, dictOf (upEs w.params τ1 .none (-1) (Value.int sv st)) cu1) ∈ (k1.d, dictOf (upEs w.params τ1 .none (-1) (Value.int sv st)) cu1) :: off k1.d N1 := .head _
              refine go (setShut_spec B FS X (front NS ud1) T rfl (by exact Nat.le_trans hdp (by decide)) (by exact Nat.le_trans hun (by decide)) off_ne (mem_off_of ui1 ud11) fun hS2 tkS2 FS2 NS2 => ?_)
              clear FS NS mgl mkl mkd mc1 mc2 mc3
              generalize (k1.d, dictOf (upEs w.params τ1 .none (-1) (Value.int sv st)) cu1) :: off k1.d N1 = N2 at NS2 S2 m2
              have R2 := R1.keep S2.keep fun b hb hx => (X8.D b hb).2 k1 (List.mem_append_right _ hk1) (List.mem_singleton.mp hx).symm
              replace TL := TL.keep nw1.h S2.keep (Mut.noTup mt1) (by simpa using Ne.symm kq1.2.2.2.2.1)
              replace mke := mke.keep nw1.h S2.keep (Mut.noTup mt1)
              replace ui0 := keep_one S2.keep ui0 ud01
              replace ui1 := keep_one S2.keep ui1 ud11
              replace m1 := keep_one S2.keep m1 dd
              replace mla := keep_one S2.keep mla lad1
              clear hoke tupe
              obtain ⟨oke, hoke, tupe⟩ := id mke
              refine R2.unpackK fun cgl ckl ckd oc1 oc2 oc3 x2 x3 mgl mkl mkd mc1 dc1 mc2 dc2 mc3 dc3 => ?_
              k_steps
              refine go (item_T2 (units1 (by omega)) NS2 TL mke hatL (fun tki => ?_) (by with_unfolding_all rfl))
              dsimp only
              k_steps
              rename Fr _ _ _ _ => F3
              rename News _ _ _ _ => N3
              refine go (eq_nil (b := false) N3 (.tail _ mla) (.head _) (.cons ci ct .nil) rfl (units64 (by omega)) ?_)
              replace N3 := sub (news' := N2) N3 fun p hp => .tail _ hp
              have nw2 := Hid.mk N3
              k_steps
              rename Fr _ _ _ _ => F4
              rename News _ _ _ _ => N4
              rename_i l4 h4 lt4
              have NS2 := nw2.h
              replace lt4 : ∀ q ∈ N2, q.1 < l4 := lt4
              have TL4 : TabAt prog w ((l4, listOf #[Value.int sv st] 0) :: N2) lf olf (lfTab lx) := TL.keep NS2 (keep_cons (fp := [])) (fun _ h => nomatch h) (fun h => nomatch h)
              have mke4 : KeyIn prog w ((l4, listOf #[Value.int sv st] 0) :: N2) e.key e.ka := mke.keep NS2 (keep_cons (fp := [])) (fun _ h => nomatch h)
              have nw4 := Hid.mk N4
              refine go (set_T (units1 (by omega)) F4 (front N4 TL4.mem) off_ne (TL4.front N4) (mke4.keep N4 keep_front fun b hb => ⟨_, by rw [List.mem_singleton.mp hb]; exact TL4.mem, TL4.tab.noTup⟩) hzl fun h5 o5 tk5 F5 N5 T5 => ?_)
              rw [lfTab_set ⟨e, hem, rfl⟩] at T5
              have l4n : ∀ q ∈ N8, q.1 < l4 := S1.lt (S2.lt lt4)
              have S4 : Step [lf] N2 ((lf, o5) :: off lf ((l4, listOf #[Value.int sv st] 0) :: N2)) := step_cons.trans step_front
              have l4f : l4 ≠ lf := Nat.ne_of_gt (lt4 _ TL.mem)
              have X9 := X8.shut nw8.h ((S1.keep.wider (by simp)).trans ((S2.keep.wider (by simp)).trans (S4.keep.wider (by simp)))) hem hcn hk0 hkk0 hk1 hkk1
                ⟨keep_one S4.keep ui0 (ne_mk1 NS2 ui0 TL.mem (by rw [mk_inst, TL.tab.mk1]; decide)), _, _, keep_one S4.keep m1 kq0.2.2.2.2.1⟩ ⟨keep_one S4.keep ui1 (ne_mk1 NS2 ui1 TL.mem (by rw [mk_inst, TL.tab.mk1]; decide)), _, _, keep_one S4.keep m2 kq1.2.2.2.2.1⟩
                ⟨o5, .head _, T5⟩ ⟨0, .tail _ (mem_off_of (.head _) l4f)⟩ l4n
              have mI9 := keep_one S4.keep (keep_one S2.keep (keep_one S1.keep mI8 hIs.1) hIs.2.1) hIs.2.2
              clear F4 N4 TL4 mke4 nw4 X8 S1 S2 S4 m1 m2 R1 R2 TL TK0 TK1 mke hoke tupe mla mI8 nw8 nw1 mgl mkl mkd mc1 mc2 mc3 dc1 dc2 dc3 ui0 ui1 lt4 l4n mt0 mt1 T5
              rename SubFlag => sf
              clear sf
              have XT := X9
              have mIT := mI9
              refine XT.unpackK fun cgl ckl ckd oc1 oc2 oc3 x2 x3 mgl mkl mkd mc1 dc1 mc2 dc2 mc3 dc3 => ?_
              k_steps
              refine go (holds_spec B F5 X N5 T rfl (by exact Nat.le_trans hdp (by decide)) (by exact Nat.le_trans hun (by decide)) XT.W.h0 fun h91 tk91 F91 N91 => ?_)
              clear F5 N5
              k_steps
              refine go (holds_spec B F91 X N91 T rfl (by exact Nat.le_trans hdp (by decide)) (by exact Nat.le_trans hun (by decide)) XT.W.h1 fun h92 tk92 F92 N92 => ?_)
              clear F91 N91
              k_steps
              refine go (fin _ _ _ _ _ _ _ _ _ _ _ _ _ _ F92 N92 mIT XT (by first | exact fs_1 nn0 | exact fs_2 nn0 | exact fs_3 nn0 | exact fs_4 nn0 | exact fs_f3 nn0 | exact fs_f2 nn0 | omega) (by first | exact fe_1 nn1 | exact fe_2 nn1 | exact fe_3 nn1 | exact fe_4 nn1 | exact fe_f3 nn1 bfh | exact fe_f2 nn1 bfh | omega) ?_)
              intro y e1 e2 e3 e4 e5 e6 e7 e8
              repeat (refine Eq.trans (if_neg (by assumption)) ?_)
              rfl
      · clear X1 F16 N16 hr16 S15 mt15
        rintro m₁ news₁ h tk ⟨v1, v2, v3, v4, v5, v6, v7, v8, tms, nt, vals, nz, ups0, ups1, kx0, kx1, lx, nn, rfl, X1, nn0, nn1⟩ F N
        · skip
          refine X1.unpackK fun cgl ckl ckd oc1 oc2 oc3 x2 x3 mgl mkl mkd mc1 dc1 mc2 dc2 mc3 dc3 => ?_
          obtain ⟨cpl, mpl⟩ := X1.W.h0.pln
          have hvl := X1.W.h0.fi.vl
          k_steps
          rename Fr _ _ _ _ => Fo
          rename News _ _ _ _ => No
          rename_i tkl tkl' hv hh lv
          replace lv : ∀ q ∈ news₁, q.1 < hv := lv
          have hhlo : hv ∉ [st0, st1, pl, ou0, ou1] := by
            refine hide fun gP gQ => ?_
            obtain ⟨_, p1⟩ := X1.W.h0.stk
            obtain ⟨_, p2⟩ := X1.W.h1.stk
            obtain ⟨_, p3⟩ := X1.W.h0.pln
            obtain ⟨_, p4⟩ := X1.W.h0.fi.li
            obtain ⟨_, p5⟩ := X1.W.h1.fi.li
            refine gQ ?_
            clear gQ gP
            simp only [List.mem_cons, List.not_mem_nil, or_false, not_or]
            exact ⟨Nat.ne_of_gt (lv _ p1), Nat.ne_of_gt (lv _ p2), Nat.ne_of_gt (lv _ p3), Nat.ne_of_gt (lv _ p4), Nat.ne_of_gt (lv _ p5)⟩
          have hglo : gl ∉ [st0, st1, pl, ou0, ou1] := fun h => (X1.D gl (by simp)).1 (by simp only [LA.ms, List.mem_cons, List.not_mem_nil, or_false] at h ⊢; rcases h with h | h | h | h | h <;> simp [h])
          have hklo : kl ∉ [st0, st1, pl, ou0, ou1] := fun h => (X1.D kl (by simp)).1 (by simp only [LA.ms, List.mem_cons, List.not_mem_nil, or_false] at h ⊢; rcases h with h | h | h | h | h <;> simp [h])
          have b3x := X1.b3
          have X2 := X1.mono (N' := (hv, listOf #[Value.int (vals.length : Int) tkl] 0) :: news₁) fun p hp => .tail _ hp
          refine go (closed_spec B Fo X No T rfl (by exact Nat.le_trans hdp (by decide)) (by exact Nat.le_trans hun (by decide)) X2.W (by omega) (.tail _ mgl) (.tail _ mkl) (.head _) (.cons _ _ .nil) (by show 1 ≤ 60; decide) (fun y hy => by rw [List.mem_singleton.mp hy]; exact Int.natCast_nonneg _) hglo hklo hhlo fun N14 S14 la14 nt14 h14 tk14 W14 hn14 K14 F14 N14n => ?_)
          have XT := X2.closed W14 hn14 K14
          clear Fo No X1 X2 W14 K14 mgl mkl mkd mc1 mc2 mc3 dc1 dc2 dc3 mpl
          refine XT.unpackK fun cgl ckl ckd oc1 oc2 oc3 x2 x3 mgl mkl mkd mc1 dc1 mc2 dc2 mc3 dc3 => ?_
          k_steps
          refine go (holds_spec B F14 X N14n T rfl (by exact Nat.le_trans hdp (by decide)) (by exact Nat.le_trans hun (by decide)) XT.W.h0 fun h91 tk91 F91 N91 => ?_)
          clear F14 N14n
          k_steps
          refine go (holds_spec B F91 X N91 T rfl (by exact Nat.le_trans hdp (by decide)) (by exact Nat.le_trans hun (by decide)) XT.W.h1 fun h92 tk92 F92 N92 => ?_)
          clear F91 N91
          k_steps
          exact go ⟨rfl, fun b o e => F92.keep b o e, rfl, rfl⟩
  · rintro fl s' ⟨e1, e2, e3, e4⟩
    replace e4 := e4.trans hg
    clear F N d1 d2 d3
    cases fl
    all_goals first
      | (exfalso; exact nomatch (show Value.none = Value.bool true from e1))
      | skip
    rename_i v
    obtain rfl : v = .bool true := e1
    exact ⟨.inl ⟨.bool true, .bool true, [], rfl, fun _ => by with_unfolding_all rfl, ReadsW.bool true, by with_unfolding_all rfl, fun _ => ⟨List.nodup_nil, fun _ h => nomatch h⟩⟩, e2, e3, e4⟩)
theorem law_holds : PySem.Challenge.rw_sm0054_01.Holds := holds_law Hd.said fun _ => law_row
end
end Mine
theorem PySem.Challenge.cw_sm0054_01_holds : PySem.Challenge.rw_sm0054_01.Holds := by
  exact Mine.law_holds
