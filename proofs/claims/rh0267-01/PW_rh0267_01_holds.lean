import PyProof.Rows.All
import Wide.All
import OpenK.AllK
import Wide.FinOn
import PySem.Challenge.RW_rh0267_01
open PySem PySem.W PySem.Calls PyProof.Rows
set_option Elab.async false
set_option maxRecDepth 100000
set_option maxHeartbeats 8000000
set_option rowWalk.seconds 0
set_option compiler.extract_closed false
namespace Mine
open_top hd for PySem.Challenge.rw_rh0267_01
theorem fill_00 {w : World} {h : Heap} (X : (hd.heap_39 w.params).In h) : PySem.Challenge.rw_rh0267_01.row.prog = PySem.Challenge.rw_rh0267_01.row.prog ∧ (hd.heap_39 w.params).In h := by
  w_top off
  k_fill
  exact ⟨rfl, X⟩

/-- the end of a def's body: a value, a ledger -/
inductive DefEnd (g : Heap) (L : Addr) (s : Shared) (Post : Value → List (Addr × Obj) → Prop) (v : Value) (s' : Shared) : Prop
  | mk (h' : Heap) (tk' : Nat) (m' : Str → Option Value) (post : List (Addr × Obj)) (e : s' = { s with heap := h', toks := tk' }) (F : Fr g L h' m') (N : News g L h' post) (P : Post v post) : DefEnd g L s Post v s'

def retOf (fl : Flow) : Value := match fl with | .ret v => v | _ => .none

/-- the contract of a def: it turns the objects of its core alone -/
def Tell (w : World) (f : Addr) (D U : Nat) (args : List Value) (core : List (Addr × Obj)) (Post : Value → List (Addr × Obj) → Prop) : Prop :=
  ∀ (loose : List Str) (mean : ExcName → Option Value) (mg mb : Str → Option Value) (dp un : Nat) (gd : Option (List Code)) (cn : Str) (cs : Scope) (a : Addr) (ccd : Value) (cl : List (Str × Addr)) (outer : List Env) (A₀ : Around) (base h₀ : Heap) (L : Addr) (m : Str → Option Value) (rest : List (Addr × Obj)) (s : Shared) (Q E : Value → Shared → Prop),
    Below A₀ base outer h₀ → Fr h₀ L s.heap m → (hd.heap_39 w.params).In h₀ → News h₀ L s.heap (core ++ rest) → OwnOff rest (core.map (·.1)) → Top hd.view_39 loose mean mg mb h₀ → cs.kind = .function →
    dp + D < recursionLimit → un + U < cLine →
    (∀ r post h' tk', Post r post → Fr h₀ L h' m → News h₀ L h' (post ++ rest) → OwnOff rest (post.map (·.1)) → Q r { s with heap := h', toks := tk' }) →
    wpAny (model PySem.Challenge.rw_rh0267_01.row.prog w) (ktrTop dp un gd cn cs L a ccd cl outer) (call (.ref f) args) Q E s

theorem tell_of {w : World} {f : Addr} {D U : Nat} {args : List Value} {core : List (Addr × Obj)} {Post : Value → List (Addr × Obj) → Prop}
    {name qual : Str} {params : Arguments} {body : List Stmt} {scope : Scope} {dV kV doc pm cdv ct oc : Value} {an od : Option Addr} {osl : Array (Option Value)} {binds : List (Str × Value)}
    (ho : (hd.heap_39 w.params).lookup f = some ⟨oc, od, .func (fnOf name qual params body scope dV kV doc pm an cdv ct), osl⟩) (hcd : codeIn (hd.heap_39 w.params) cdv qual = true)
    (hbind : ∀ s, BindsTo s (fnOf name qual params body scope dV kV doc pm an cdv ct) ⟨args, []⟩ binds) (hloc : ∀ y ∈ binds, scope.names.lookup y.1 = some .local)
    (hco : scope.isCoroutine = false) (hgen : scope.isGenerator = false) (hk : scope.kind = .function) (hcell : ∀ x ∈ scope.names, x.2 ≠ .cell)
    (h : ∀ (loose : List Str) (mean : ExcName → Option Value) (mg mb : Str → Option Value) (dp un : Nat) (gd : Option (List Code)) (outer : List Env) (A₀ : Around) (base g : Heap) (L : Addr) (s : Shared),
      Below A₀ base outer g → Fr g L s.heap (fun y => binds.reverse.lookup y) → (hd.heap_39 w.params).In g → News g L s.heap core → Top hd.view_39 loose mean mg mb g →
      dp + D < recursionLimit + 1 → un + U < cLine + 3 →
      wpAny (model PySem.Challenge.rw_rh0267_01.row.prog w) (ktrTop dp un gd qual scope L f cdv [] outer) (execs body (envX qual scope L f cdv [])) (fun fl s' => DefEnd g L s Post (retOf fl) s') (fun _ _ => False) s)
    (hD : 0 < D := by decide) :
    Tell w f D U args core Post := by
  intro loose mean mg mb dp un gd cn cs a ccd cl outer A₀ base h₀ L m rest s Q E B F X N O T hks hd hu hret
  refine wpAny_call ?_
  have N₀ : News h₀ L s.heap core := fun p hp => N p (List.mem_append_left _ hp)
  obtain ⟨FG, BG, st, lv⟩ := groundX (A := ktrTop dp un gd cn cs L a ccd cl outer) (R := fun r s' => match r with | .ok (.ret v) => Q v s' | .ok _ => False | .error e => E e s') B F N₀ rfl rfl hks
  refine codeAny_call_def (fd := fnOf name qual params body scope dV kV doc pm an cdv ct) (body := body) (binds := binds) (show dp < recursionLimit by omega) ((X.keeps F.keep) _ _ ho) rfl ((T.nolimit).keeps F.keep) (codeRec_of (X.keeps F.keep) hcd) rfl (hbind s) hcell hloc (fun h₁ hns hk₁ => ?_) hco hgen hk
  have key := h loose mean mg mb (dp + 1) (un + 3) gd (envX cn cs L a ccd cl :: outer) _ base _ s.heap.objs.size { s with heap := h₁, toks := s.toks + binds.length } BG
    ⟨hns, fun b o e => hk₁ b o (of_hideAll _ e), Nat.le_of_eq (hideAll_size _ _)⟩ (X.keeps st)
    (fun p hp => ⟨hk₁ _ _ (N₀ p hp).1, Nat.ne_of_lt (Heap.lt_size (N₀ p hp).1), hideAll_none _ (List.mem_map_of_mem hp)⟩) (T.keeps st) (by omega) (by omega)
  refine wpAny_mono key (fun fl s' hl => ?_) fun _ _ y => y.elim
  obtain ⟨h', tk', m', post, e, F', N', P⟩ := hl
  subst e
  have hrest : ∀ p ∈ rest, (hideAll s.heap (core.map (·.1))).get? p.1 = some p.2 := fun p hp =>
    hideAll_get _ (N p (List.mem_append_right _ hp)).1 fun q => O p hp _ q rfl
  have R := lv (retOf fl) { s with heap := h', toks := tk' } ⟨s.heap.objs.size, m', post, F', N', fun F₂ N₂ => by
    refine hret _ _ _ _ P F₂ (fun p hp => ?_) fun p hp b hb e => ?_
    · rcases List.mem_append.mp hp with hp | hp
      · exact N₂ p hp
      · exact ⟨F'.keep _ _ (hrest p hp), (N p (List.mem_append_right _ hp)).2⟩
    · obtain ⟨q, hq, rfl⟩ := List.mem_map.mp hb
      have h1 := (N' q hq).2.2
      rw [← e, hrest p hp] at h1
      cases h1⟩
  exact R

/-- a part of a ledger taken out -/
inductive Pull : List (Addr × Obj) → (Addr × Obj) → List (Addr × Obj) → Prop
  | here {p l} : Pull (p :: l) p l
  | there {p q l r} : Pull l p r → Pull (q :: l) p (q :: r)
inductive Sel : List (Addr × Obj) → List (Addr × Obj) → List (Addr × Obj) → Prop
  | nil {r} : Sel r [] r
  | cons {l p l' a r} : Pull l p l' → Sel l' a r → Sel l (p :: a) r
theorem Pull.mem {l : List (Addr × Obj)} {p : Addr × Obj} {r : List (Addr × Obj)} (h : Pull l p r) : ∀ q, q ∈ p :: r → q ∈ l := by
  induction h with
  | here => exact fun _ h => h
  | there _ ih =>
    intro q hq
    rcases List.mem_cons.mp hq with rfl | hq
    · exact .tail _ (ih _ (.head _))
    · rcases List.mem_cons.mp hq with rfl | hq
      · exact .head _
      · exact .tail _ (ih _ (.tail _ hq))
theorem Sel.mem {l a r : List (Addr × Obj)} (h : Sel l a r) : ∀ p, p ∈ a ++ r → p ∈ l := by
  induction h with
  | nil => exact fun _ h => h
  | cons hp _ ih =>
    intro q hq
    rcases List.mem_cons.mp hq with rfl | hq
    · exact hp.mem _ (.head _)
    · exact hp.mem _ (.tail _ (ih _ hq))

section
variable {w : World} {f : Addr} {D U : Nat} {args : List Value} {core : List (Addr × Obj)} {Post : Value → List (Addr × Obj) → Prop}
theorem Tell.use {loose : List Str} {mean : ExcName → Option Value} {mg mb : Str → Option Value} {dp un : Nat} {gd : Option (List Code)} {cn : Str} {cs : Scope} {a : Addr} {ccd : Value} {cl : List (Str × Addr)} {outer : List Env} {A₀ : Around} {base h₀ : Heap} {L : Addr} {m : Str → Option Value} {led rest : List (Addr × Obj)} {s : Shared} {Q E : Value → Shared → Prop}
    (C : Tell w f D U args core Post) (B : Below A₀ base outer h₀) (F : Fr h₀ L s.heap m) (X : (hd.heap_39 w.params).In h₀) (N : News h₀ L s.heap led) (T : Top hd.view_39 loose mean mg mb h₀) (S : Sel led core rest) (O : OwnOff rest (core.map (·.1)))
    (hks : cs.kind = .function) (hdp : dp + D < recursionLimit) (hun : un + U < cLine)
    (hret : ∀ r post h' tk', Post r post → Fr h₀ L h' m → News h₀ L h' (post ++ rest) → OwnOff rest (post.map (·.1)) → Q r { s with heap := h', toks := tk' }) :
    wpAny (model PySem.Challenge.rw_rh0267_01.row.prog w) (ktrTop dp un gd cn cs L a ccd cl outer) (call (.ref f) args) Q E s :=
  C loose mean mg mb dp un gd cn cs a ccd cl outer A₀ base h₀ L m rest s Q E B F X (fun p hp => N p (S.mem p hp)) O T hks hdp hun hret
end

/-- what both sides keep -/
structure St where
  shown : List Int
  printed : List Int
  on : Bool
  col : Int

def colOf (col o : Int) : Int := if o = 10 then 0 else if o = 8 then max (col - 1) 0 else if 32 ≤ o ∧ o ≠ 127 then col + 1 else col

def put1 (st : St) (o : Int) : St :=
  { shown := st.shown ++ [o], printed := if st.on then st.printed ++ [o] else st.printed, on := st.on, col := colOf st.col o }

def Small (st : St) (k : Nat) : Prop := st.shown.length + k ≤ 1000000 ∧ st.printed.length + k ≤ 1000000

/-- the console's addresses, the hashes and tokens of its names -/
structure CS where
  (x dx kl sl pl : Nat)
  (hk ha hs hc hb hp hi : Int)
  (tk ta ts tc tb tp ti : Tok)
def CS.Ok (c : CS) : Prop := c.dx < c.x ∧ c.x < c.kl ∧ c.kl < c.sl ∧ c.sl < c.pl

abbrev conL (c : CS) (ix : Int) (ixT : Tok) (st : St) (colT : Tok) (beg : Int) (begT : Tok) (us : List Value) (nu : Nat) (ps : List Value) (np : Nat) : List (Addr × Obj) :=
  [(c.x, instObj 31 c.dx),
   (c.dx, dictOf [⟨c.hk, .str (Str.ofString "keys") c.tk, .ref c.kl⟩, ⟨c.ha, .str (Str.ofString "at") c.ta, .int ix ixT⟩, ⟨c.hs, .str (Str.ofString "shown") c.ts, .ref c.sl⟩,
      ⟨c.hc, .str (Str.ofString "column") c.tc, .int st.col colT⟩, ⟨c.hb, .str (Str.ofString "begin") c.tb, .int beg begT⟩, ⟨c.hp, .str (Str.ofString "printed") c.tp, .ref c.pl⟩,
      ⟨c.hi, .str (Str.ofString "is_printing") c.ti, .bool st.on⟩] 7),
   (c.sl, listOf us.toArray nu), (c.pl, listOf ps.toArray np)]

inductive ConPost (c : CS) (ix : Int) (ixT : Tok) (st : St) (beg : Int) (begT : Tok) (post : List (Addr × Obj)) : Prop
  | mk (colT : Tok) (us : List Value) (nu : Nat) (ps : List Value) (np : Nat) (e : post = conL c ix ixT st colT beg begT us nu ps np) (h1 : IntsAre us st.shown) (h2 : IntsAre ps st.printed) : ConPost c ix ixT st beg begT post

theorem ints_snoc {us : List Value} {ns : List Int} (h : IntsAre us ns) (o : Int) (t : Tok) : IntsAre (us ++ [.int o t]) (ns ++ [o]) := by
  induction h with
  | nil => exact .cons _ _ .nil
  | cons n t _ ih => exact .cons _ _ ih
theorem ints_push {us : List Value} {ns : List Int} (h : IntsAre us ns) (o : Int) (t : Tok) : IntsAre (us.toArray.push (.int o t)).toList (ns ++ [o]) := by
  rw [Array.toList_push]; exact ints_snoc h o t
theorem conPost_of {c : CS} {ix : Int} {ixT : Tok} {st : St} {beg : Int} {begT : Tok} {col : Int} {colT : Tok} {on : Bool} {ua pa : Array Value} {nu np : Nat}
    (hc : col = st.col) (ho : on = st.on) (h1 : IntsAre ua.toList st.shown) (h2 : IntsAre pa.toList st.printed) :
    ConPost c ix ixT st beg begT [(c.x, instObj 31 c.dx),
   (c.dx, dictOf [⟨c.hk, .str (Str.ofString "keys") c.tk, .ref c.kl⟩, ⟨c.ha, .str (Str.ofString "at") c.ta, .int ix ixT⟩, ⟨c.hs, .str (Str.ofString "shown") c.ts, .ref c.sl⟩,
      ⟨c.hc, .str (Str.ofString "column") c.tc, .int col colT⟩, ⟨c.hb, .str (Str.ofString "begin") c.tb, .int beg begT⟩, ⟨c.hp, .str (Str.ofString "printed") c.tp, .ref c.pl⟩,
      ⟨c.hi, .str (Str.ofString "is_printing") c.ti, .bool on⟩] 7),
   (c.sl, listOf ua nu), (c.pl, listOf pa np)] := by
  subst hc ho
  exact ⟨colT, ua.toList, nu, pa.toList, np, by simp only [Array.toArray_toList], h1, h2⟩

theorem off_nil {adr : List Addr} : OwnOff [] adr := fun _ h => nomatch h
theorem off_cons {a : Addr} {o : Obj} {r : List (Addr × Obj)} {adr : List Addr} (h : ∀ b ∈ adr, @Ne Nat a b) (t : OwnOff r adr) : OwnOff ((a, o) :: r) adr := by
  intro p hp b hb
  rcases List.mem_cons.mp hp with rfl | hp
  · exact h b hb
  · exact t p hp b hb

theorem Small.mono {st : St} {j k : Nat} (h : Small st k) (hj : j ≤ k) : Small st j := ⟨by have := h.1; omega, by have := h.2; omega⟩
theorem Small.put1 {st : St} {k : Nat} {o : Int} (h : Small st (k + 1)) : Small (put1 st o) k := by
  obtain ⟨a, b⟩ := h
  refine ⟨by simp only [Mine.put1, List.length_append, List.length_cons, List.length_nil]; omega, ?_⟩
  simp only [Mine.put1]
  split
  · simp only [List.length_append, List.length_cons, List.length_nil]; omega
  · omega

inductive WNext (g : Heap) (L : Addr) (s : Shared) (m : Str → Option Value) (J : Nat → List (Addr × Obj) → Prop) (n : Nat) (s₂ : Shared) : Prop
  | mk (h' : Heap) (tk : Nat) (n' : Nat) (led' : List (Addr × Obj)) (e : s₂ = { s with heap := h', toks := tk }) (F : Fr g L h' m) (N : News g L h' led') (lt : n' < n) (j : J n' led') : WNext g L s m J n s₂
def WEnd (g : Heap) (L : Addr) (s : Shared) (m : Str → Option Value) (J : Nat → List (Addr × Obj) → Prop) (Q : Flow → Shared → Prop) (n : Nat) (f : Flow) (s₂ : Shared) : Prop :=
  match f with
  | .ret v => Q (.ret v) s₂
  | .brk => Q .next s₂
  | _ => WNext g L s m J n s₂
theorem while_m {prog : Program} {w : World} {A : Around} {E : Value → Shared → Prop} {Q : Flow → Shared → Prop} {s : Shared} {env : Env} {g : Heap} {L : Addr} {test : Expr} {body : List Stmt} {pos : Pos} {m : Str → Option Value} {led : List (Addr × Obj)}
    (J : Nat → List (Addr × Obj) → Prop) (n₀ : Nat) (F : Fr g L s.heap m) (N : News g L s.heap led) (hJ : J n₀ led)
    (turn : ∀ n led h tk, Fr g L h m → News g L h led → J n led → wpAny (model prog w) A (isTrue test env (eval test env)) (fun b s₂ =>
        if b = true then wpAny (model prog w) A (execs body env) (WEnd g L s m J Q n) E s₂ else Q .next s₂) E { s with heap := h, toks := tk })
    (hE : PassesOwn (model prog w) A env E := by passes_own) :
    wpAny (model prog w) A (exec (.While test body [] pos) env) Q E s := by
  refine While_inv2 (fun n m' nx => m' = m ∧ J n nx) F N ⟨rfl, hJ⟩ (n₀ := n₀) ?_ hE
  rintro n m₁ nx h tk F₁ N₁ ⟨rfl, hJ'⟩
  refine wpAny_mono (turn n nx h tk F₁ N₁ hJ') (fun b s₂ p => ?_) fun _ _ x => x
  cases b with
  | false => simpa using p
  | true =>
    simp only [if_true] at p ⊢
    refine wpAny_mono p (fun f s₃ q => ?_) fun _ _ x => x
    cases f with
    | ret v => exact q
    | brk => exact q
    | next =>
      obtain ⟨h', tk', n', led', rfl, F', N', hn, J'⟩ := q
      exact ⟨h', tk', m₁, led', n', rfl, F', N', hn, rfl, J'⟩
    | cont =>
      obtain ⟨h', tk', n', led', rfl, F', N', hn, J'⟩ := q
      exact ⟨h', tk', m₁, led', n', rfl, F', N', hn, rfl, J'⟩


theorem lt_all {d : Addr} {l : List (Addr × Obj)} {a : Nat} {o : Obj} (h : ∀ p ∈ l, p.1 < d) (m : (a, o) ∈ l) : @LT.lt Nat _ a d := h _ m
theorem ne_all {it a : Nat} {l : List (Addr × Obj)} {o : Obj} (h : ∀ p ∈ l, @Ne Nat p.1 it) (m : (a, o) ∈ l) : @Ne Nat a it := h _ m
theorem nes_nil {it : Nat} : ∀ q ∈ ([] : List (Addr × Obj)), @Ne Nat q.1 it := fun _ h => nomatch h
theorem nes_cons {it a : Nat} {o : Obj} {l : List (Addr × Obj)} (h : @Ne Nat a it) (t : ∀ q ∈ l, @Ne Nat q.1 it) : ∀ q ∈ (a, o) :: l, @Ne Nat q.1 it := by
  intro q hq
  rcases List.mem_cons.mp hq with rfl | hq
  · exact h
  · exact t q hq
theorem nev_nil {a : Nat} : ∀ x ∈ ([] : List Addr), @Ne Nat a x := fun _ h => nomatch h
theorem nev_cons {a b : Nat} {adr : List Addr} (h : @Ne Nat a b) (t : ∀ x ∈ adr, @Ne Nat a x) : ∀ x ∈ (b :: adr), @Ne Nat a x := by
  intro q hq
  rcases List.mem_cons.mp hq with rfl | hq
  · exact h
  · exact t q hq
theorem sub_nil {l : List (Addr × Obj)} : ∀ p ∈ ([] : List (Addr × Obj)), p ∈ l := fun _ h => nomatch h
theorem sub_cons {l r : List (Addr × Obj)} {p : Addr × Obj} (h : p ∈ l) (t : ∀ q ∈ r, q ∈ l) : ∀ q ∈ p :: r, q ∈ l := by
  intro q hq
  rcases List.mem_cons.mp hq with rfl | hq
  · exact h
  · exact t q hq
section
variable {G : Value → List (Addr × Obj) → Heap → Nat → Prop}
theorem hret_eq {v : Value} {p : List (Addr × Obj)} (k : ∀ h tk, G v p h tk) : ∀ r post h tk, (r = v ∧ post = p) → G r post h tk := by
  rintro r post h tk ⟨rfl, rfl⟩; exact k h tk
theorem hret_con {c : CS} {ix : Int} {ixT : Tok} {st : St} {beg : Int} {begT : Tok} (k : ∀ colT us nu ps np h tk, IntsAre us st.shown → IntsAre ps st.printed → G .none (conL c ix ixT st colT beg begT us nu ps np) h tk) :
    ∀ r post h tk, (r = .none ∧ ConPost c ix ixT st beg begT post) → G r post h tk := by
  rintro r post h tk ⟨rfl, colT, us, nu, ps, np, rfl, h1, h2⟩; exact k colT us nu ps np h tk h1 h2
theorem hret_conp {c : CS} {ix : Int} {ixT : Tok} {st : St} {beg : Int} {begT : Tok} {q : List (Addr × Obj)} (k : ∀ colT us nu ps np h tk, IntsAre us st.shown → IntsAre ps st.printed → G .none (conL c ix ixT st colT beg begT us nu ps np ++ q) h tk) :
    ∀ r post h tk, (r = .none ∧ ∃ p1, post = p1 ++ q ∧ ConPost c ix ixT st beg begT p1) → G r post h tk := by
  rintro r post h tk ⟨rfl, p1, rfl, colT, us, nu, ps, np, rfl, h1, h2⟩; exact k colT us nu ps np h tk h1 h2
end
theorem jcon {c : CS} {ix : Int} {ixT : Tok} {st : St} {beg : Int} {begT : Tok} {q : List (Addr × Obj)} {G : List (Addr × Obj) → Prop} (k : ∀ colT us nu ps np, IntsAre us st.shown → IntsAre ps st.printed → G (conL c ix ixT st colT beg begT us nu ps np ++ q)) :
    ∀ nx, (∃ p1, nx = p1 ++ q ∧ ConPost c ix ixT st beg begT p1) → G nx := by
  rintro nx ⟨p1, rfl, colT, us, nu, ps, np, rfl, h1, h2⟩; exact k colT us nu ps np h1 h2
theorem off_v_nil {r : List (Addr × Obj)} : OwnOff r [] := fun _ _ _ h => nomatch h
theorem off_v_cons {r : List (Addr × Obj)} {b : Addr} {adr : List Addr} (h : ∀ p ∈ r, @Ne Nat p.1 b) (t : OwnOff r adr) : OwnOff r (b :: adr) := by
  intro p hp x hx
  rcases List.mem_cons.mp hx with rfl | hx
  · exact h p hp
  · exact t p hp x hx
theorem off_of {r : List (Addr × Obj)} {b : Addr} {adr : List Addr} (O : OwnOff r adr) (hb : b ∈ adr) : ∀ p ∈ r, @Ne Nat p.1 b := fun p hp => O p hp b hb
theorem off_lt {b : Addr} {r : List (Addr × Obj)} (h : AllLt b r) : ∀ p ∈ r, @Ne Nat p.1 b := by
  induction r with
  | nil => exact fun _ hp => nomatch hp
  | cons q r ih =>
    intro p hp
    rcases List.mem_cons.mp hp with rfl | hp
    · exact Nat.ne_of_lt h.1
    · exact ih h.2 p hp
theorem off_lt2 {b : Addr} {r l : List (Addr × Obj)} (h : ∀ p ∈ l, p.1 < b) (sub : ∀ p ∈ r, p ∈ l) : ∀ p ∈ r, @Ne Nat p.1 b := fun p hp => Nat.ne_of_lt (h p (sub p hp))
theorem off_ne2 {b : Addr} {r l : List (Addr × Obj)} (h : ∀ p ∈ l, @Ne Nat p.1 b) (sub : ∀ p ∈ r, p ∈ l) : ∀ p ∈ r, @Ne Nat p.1 b := fun p hp => h p (sub p hp)
theorem room_0 {a b c d : Nat} (h : a + b < c) (hd : d ≤ b) : a + d < c := Nat.lt_of_le_of_lt (Nat.add_le_add_left hd a) h
theorem room_1 {a b c d : Nat} (h : a + b < c + 1) (hd : d + 1 ≤ b) : a + d < c := Nat.lt_of_succ_lt_succ (Nat.lt_of_le_of_lt (Nat.add_le_add_left hd a) h)
theorem room_3 {a b c d : Nat} (h : a + b < c + 3) (hd : d + 3 ≤ b) : a + d < c := Nat.lt_of_succ_lt_succ (Nat.lt_of_succ_lt_succ (Nat.lt_of_succ_lt_succ (Nat.lt_of_le_of_lt (Nat.add_le_add_left hd a) h)))
/-- bounds that omega does not see -/
def Bd (x : Int) (k : Nat) : Prop := 0 ≤ x ∧ x ≤ (k : Int)
theorem Bd.nn {x : Int} {k : Nat} (h : Bd x k) : 0 ≤ x := h.1
theorem Bd.le {x M : Int} {k : Nat} (h : Bd x k) (hM : (k : Int) ≤ M) : x ≤ M := Int.le_trans h.2 hM
theorem Bd.next {x : Int} {k : Nat} (h : Bd x k) : Bd (x + 1) (k + 1) := ⟨Int.le_trans h.1 (Int.le_of_lt (Int.lt_add_one_of_le (Int.le_refl x))), Int.add_le_add_right h.2 1⟩
theorem Bd.mono {x : Int} {k n : Nat} (h : Bd x k) (hn : k ≤ n) : Bd x n := ⟨h.1, Int.le_trans h.2 (Int.ofNat_le.mpr hn)⟩
/-- the console's and the twin's addresses are distinct -/
theorem cs_ne {c : CS} (h : c.Ok) : (@Ne Nat c.kl c.x ∧ @Ne Nat c.kl c.dx ∧ @Ne Nat c.kl c.sl ∧ @Ne Nat c.kl c.pl) ∧ (@Ne Nat c.dx c.x ∧ @Ne Nat c.sl c.x ∧ @Ne Nat c.sl c.dx ∧ @Ne Nat c.pl c.x ∧ @Ne Nat c.pl c.dx ∧ @Ne Nat c.pl c.sl) := by
  obtain ⟨c1, c2, c3, c4⟩ := h
  omega
theorem meas_lt {n j k : Nat} (h : n = k + 1 - j) (hj : j < k) : k + 1 - (j + 1) < n := by omega
theorem cs0 {c : CS} (h : c.Ok) : @Ne Nat c.kl c.x := (cs_ne h).1.1
theorem cs1 {c : CS} (h : c.Ok) : @Ne Nat c.kl c.dx := (cs_ne h).1.2.1
theorem cs2 {c : CS} (h : c.Ok) : @Ne Nat c.kl c.sl := (cs_ne h).1.2.2.1
theorem cs3 {c : CS} (h : c.Ok) : @Ne Nat c.kl c.pl := (cs_ne h).1.2.2.2
theorem cs4 {c : CS} (h : c.Ok) : @Ne Nat c.dx c.x := (cs_ne h).2.1
theorem cs5 {c : CS} (h : c.Ok) : @Ne Nat c.sl c.x := (cs_ne h).2.2.1
theorem cs6 {c : CS} (h : c.Ok) : @Ne Nat c.sl c.dx := (cs_ne h).2.2.2.1
theorem cs7 {c : CS} (h : c.Ok) : @Ne Nat c.pl c.x := (cs_ne h).2.2.2.2.1
theorem cs8 {c : CS} (h : c.Ok) : @Ne Nat c.pl c.dx := (cs_ne h).2.2.2.2.2.1
theorem cs9 {c : CS} (h : c.Ok) : @Ne Nat c.pl c.sl := (cs_ne h).2.2.2.2.2.2
inductive TNext (g : Heap) (L : Addr) (s₁ : Shared) (J : (Str → Option Value) → List (Addr × Obj) → Prop) (it : Nat) (ito : Obj) (s₂ : Shared) : Prop
  | mk (h' : Heap) (tk' : Nat) (m' : Str → Option Value) (nx' : List (Addr × Obj)) (e : s₂ = { s₁ with heap := h', toks := tk' }) (F : Fr g L h' m') (N : News g L h' ((it, ito) :: nx')) (ne : ∀ p ∈ nx', @Ne Nat p.1 it) (j : J m' nx') : TNext g L s₁ J it ito s₂
def TEnd (g : Heap) (L : Addr) (s₁ : Shared) (J : (Str → Option Value) → List (Addr × Obj) → Prop) (it : Nat) (ito : Obj) (Q : Flow → Shared → Prop) (f : Flow) (s₂ : Shared) : Prop :=
  match f with
  | .ret v => Q (.ret v) s₂
  | .brk => Q .next s₂
  | _ => TNext g L s₁ J it ito s₂

/-- a loop over a list of ints of the call's own, by an invariant over the frame and the ledger; the turn may make objects -/
theorem for_own {prog : Program} {w : World} {A : Around} {E : Value → Shared → Prop} {s : Shared} {env : Env} {g : Heap} {L : Addr} {x : Str} {body : List Stmt} {Q : Flow → Shared → Prop}
    {l : Addr} {vs : List Value} {ns : List Int} {nn : Nat} {m₀ : Str → Option Value} {led : List (Addr × Obj)} (J : Nat → (Str → Option Value) → List (Addr × Obj) → Prop)
    (hh : A.handled = none) (hl : (l, listOf vs.toArray nn) ∈ led) (hi : IntsAre vs ns) (F : Fr g L s.heap m₀) (N : News g L s.heap led) (hj : J 0 m₀ led) (hJl : ∀ i m nx, J i m nx → (l, listOf vs.toArray nn) ∈ nx)
    (turn : ∀ i n t m₁ nx h tk it ito, ns[i]? = some n → J i m₁ nx → (∀ p ∈ nx, @Ne Nat p.1 it) → Fr g L h (fun y => if y = x then some (.int n t) else m₁ y) → News g L h ((it, ito) :: nx) →
      wpAny (model prog w) A (execs body env) (TEnd g L { s with heap := h, toks := tk } (J (i + 1)) it ito Q) E { s with heap := h, toks := tk })
    (done : ∀ m₁ nx h tk, J ns.length m₁ nx → Fr g L h m₁ → News g L h nx → Q .next { s with heap := h, toks := tk })
    (hL : env.locals = L := by rfl) :
    wpAny (model prog w) A (pyIter (.ref l)) (fun it s₂ => LoopAtV prog w A g env x body Q E it s₂) E s := by
  subst hL
  have hol : s.heap.get? l = some (listOf vs.toArray nn) := (N _ hl).1
  have hls : s.heap.IsList l vs.toArray := ⟨_, hol, rfl, nn, rfl⟩
  have hne : l ≠ s.heap.objs.size := Nat.ne_of_lt (Heap.lt_size hol)
  refine wpAny_pyIter_list hls ?_
  have W := Walks.list (prog := prog) (w := w) hh s.heap.objs.size l hne vs.toArray
  have hlen : vs.toArray.size = ns.length := by simp [hi.length]
  rw [hlen] at W
  refine ⟨_, _, _, ns.length, _, _, m₀, led, J, rfl, W, ?_, ?_, ?_, ⟨⟨_, Heap.get?_push_size _ rfl, rfl, rfl⟩, hls.at fun o e => Heap.get?_push_of_some _ e⟩, F.push _, (fun p hp => ⟨Heap.get?_push_of_some _ (N p hp).1, (N p hp).2⟩), hj, ?_, ?_⟩
  · intro hm
    rcases List.mem_cons.mp hm with e | hm
    · exact absurd F.ns.lt (e ▸ Nat.lt_irrefl _)
    · exact (N _ hl).2.1 ((List.mem_singleton.mp hm).symm)
  · intro b hb
    rw [List.mem_singleton.mp hb]
    exact next_is_new F
  · intro p hp hI
    exact absurd (Heap.lt_size (N p hp).1) ((List.mem_singleton.mp hI) ▸ Nat.lt_irrefl _)
  · rintro i v m₁ nx s₁ own ⟨hh', tk', rfl⟩ hin hP hJ hnw hown hget hfp hst F₁ N₁
    have hlt' : i < ns.length := hin
    obtain ⟨t, hx⟩ := hi.get i ns[i] (by simp [hlt'])
    have hv : v = .int ns[i] t := by
      have hP' : vs[i]? = some v := by simpa using hP
      rw [hx] at hP'; exact (Option.some.inj hP').symm
    subst hv
    obtain ⟨⟨ito, hito, _⟩, _⟩ := id hst
    have hmi : (s.heap.objs.size, ito) ∈ own := hfp _ (.head _) (next_is_new F) _ hito
    have N₂ : News g env.locals hh' ((s.heap.objs.size, ito) :: nx) := fun p hp => by
      rcases List.mem_cons.mp hp with rfl | hp
      · exact N₁ _ (List.mem_append_left _ hmi)
      · exact N₁ _ (List.mem_append_right _ hp)
    have hlo : hh'.get? l = some (listOf vs.toArray nn) := (N₁ _ (List.mem_append.mpr (.inr (hJl _ _ _ hJ)))).1
    refine wpAny_mono (turn i ns[i] t m₁ nx hh' tk' s.heap.objs.size ito (by simp [hlt']) hJ (fun p hp e => hnw p hp (by rw [e]; exact .head _)) F₁ N₂) (fun f s₂ p => ?_) fun _ _ e => e
    have fin : TNext g env.locals { s with heap := hh', toks := tk' } (J (i + 1)) s.heap.objs.size ito s₂ →
        LoopStepU g env.locals [s.heap.objs.size] own (J (i + 1)) { s with heap := hh', toks := tk' } .next s₂ := by
      rintro ⟨h', tk, m', nx', e, F', N', ha, hm⟩
      refine ⟨rfl, h', tk, m', nx', e, F', fun p hp => ?_, fun p hp => ?_, hm⟩
      · rcases List.mem_append.mp hp with h | h
        · rcases List.mem_cons.mp (hown p h) with h2 | h2
          · have h3 : hh'.get? p.1 = some p.2 := hget p h
            rw [h2] at h3
            have h4 : p = (s.heap.objs.size, ito) := Prod.ext h2 (Option.some.inj (h3.symm.trans hito))
            rw [h4]
            exact N' _ (.head _)
          · have h1 : p.1 = l := List.mem_singleton.mp h2
            have h3 : hh'.get? p.1 = some p.2 := hget p h
            rw [h1, hlo] at h3
            have h4 : p = (l, listOf vs.toArray nn) := Prod.ext h1 (Option.some.inj h3).symm
            rw [h4]
            exact N' _ (.tail _ (hJl _ _ _ hm))
        · exact N' p (.tail _ h)
      · intro hI
        exact ha p hp (List.mem_singleton.mp hI)
    cases f with
    | ret v => exact .ret p
    | brk => exact .brk p
    | next => exact .next (fin p)
    | cont => exact .cont (fin p)
  · rintro h' tk m' news' F' N' _ hJ
    exact done m' news' h' tk hJ F' N'

/-- the same where the frame keeps all names but the loop's own -/
theorem for_ownM {prog : Program} {w : World} {A : Around} {E : Value → Shared → Prop} {s : Shared} {env : Env} {g : Heap} {L : Addr} {x : Str} {body : List Stmt} {Q : Flow → Shared → Prop}
    {l : Addr} {vs : List Value} {ns : List Int} {nn : Nat} {m₀ : Str → Option Value} {led : List (Addr × Obj)} (J : Nat → List (Addr × Obj) → Prop)
    (hh : A.handled = none) (hl : (l, listOf vs.toArray nn) ∈ led) (hi : IntsAre vs ns) (F : Fr g L s.heap m₀) (N : News g L s.heap led) (hj : J 0 led) (hJl : ∀ i nx, J i nx → (l, listOf vs.toArray nn) ∈ nx)
    (turn : ∀ i n t nx h tk it ito, ns[i]? = some n → J i nx → (∀ p ∈ nx, @Ne Nat p.1 it) → Fr g L h (fun y => if y = x then some (.int n t) else m₀ y) → News g L h ((it, ito) :: nx) →
      wpAny (model prog w) A (execs body env) (TEnd g L { s with heap := h, toks := tk } (fun m' nx' => (∀ y, y ≠ x → m' y = m₀ y) ∧ J (i + 1) nx') it ito Q) E { s with heap := h, toks := tk })
    (done : ∀ u nx h tk, J ns.length nx → Fr g L h (fun y => if y = x then u else m₀ y) → News g L h nx → Q .next { s with heap := h, toks := tk })
    (hL : env.locals = L := by rfl) :
    wpAny (model prog w) A (pyIter (.ref l)) (fun it s₂ => LoopAtV prog w A g env x body Q E it s₂) E s := by
  subst hL
  refine for_own (fun i m nx => (∀ y, y ≠ x → m y = m₀ y) ∧ J i nx) hh hl hi F N ⟨fun _ _ => rfl, hj⟩ (fun i m nx h => hJl i nx h.2) ?_ ?_
  · rintro i n t m₁ nx h tk it ito hn ⟨hm, hJ⟩ hne F₁ N₁
    have e : (fun y => if y = x then some (Value.int n t) else m₁ y) = fun y => if y = x then some (Value.int n t) else m₀ y := by
      funext y
      by_cases h1 : y = x
      · simp only [if_pos h1]
      · simp only [if_neg h1, hm y h1]
    rw [e] at F₁
    exact turn i n t nx h tk it ito hn hJ hne F₁ N₁
  · rintro m₁ nx h tk ⟨hm, hJ⟩ F₁ N₁
    have e : m₁ = fun y => if y = x then m₁ x else m₀ y := by
      funext y
      by_cases h1 : y = x
      · simp only [h1, if_true]
      · simp only [if_neg h1, hm y h1]
    exact done (m₁ x) nx h tk hJ (e ▸ F₁) N₁

theorem take_snoc {ns : List Int} {i : Nat} {n : Int} (h : ns[i]? = some n) : ns.take (i + 1) = ns.take i ++ [n] := by
  rw [List.take_add_one, h]; rfl

inductive T4Next (g : Heap) (L : Addr) (s₁ : Shared) (x a b c : Str) (m₀ : Str → Option Value) (J : Addr → Int → List (Addr × Obj) → Prop) (it : Nat) (ito : Obj) (s₂ : Shared) : Prop
  | mk (h' : Heap) (tk' : Nat) (m' : Str → Option Value) (l' : Addr) (b' : Int) (bt' : Tok) (nx' : List (Addr × Obj)) (e : s₂ = { s₁ with heap := h', toks := tk' }) (F : Fr g L h' m') (ma : m' a = some (.ref l')) (mb : m' b = some (.int b' bt'))
      (mz : ∀ z, z ≠ x → z ≠ a → z ≠ b → z ≠ c → m' z = m₀ z) (N : News g L h' ((it, ito) :: nx')) (ne : ∀ p ∈ nx', @Ne Nat p.1 it) (j : J l' b' nx') : T4Next g L s₁ x a b c m₀ J it ito s₂
def T4End (g : Heap) (L : Addr) (s₁ : Shared) (x a b c : Str) (m₀ : Str → Option Value) (J : Addr → Int → List (Addr × Obj) → Prop) (it : Nat) (ito : Obj) (Q : Flow → Shared → Prop) (f : Flow) (s₂ : Shared) : Prop :=
  match f with
  | .ret v => Q (.ret v) s₂
  | .brk => Q .next s₂
  | _ => T4Next g L s₁ x a b c m₀ J it ito s₂
/-- the same where the turn turns a name that holds an object, one that holds an int, and one more -/
theorem for_own4 {prog : Program} {w : World} {A : Around} {E : Value → Shared → Prop} {s : Shared} {env : Env} {g : Heap} {L : Addr} {x : Str} {body : List Stmt} {Q : Flow → Shared → Prop}
    {l : Addr} {vs : List Value} {ns : List Int} {nn : Nat} {m₀ : Str → Option Value} {led : List (Addr × Obj)} (a b c : Str) (J : Nat → Addr → Int → List (Addr × Obj) → Prop) {l₀ : Addr} {b₀ : Int} {bt₀ : Tok}
    (hh : A.handled = none) (hl : (l, listOf vs.toArray nn) ∈ led) (hi : IntsAre vs ns) (F : Fr g L s.heap m₀) (N : News g L s.heap led) (ha : m₀ a = some (.ref l₀)) (hb : m₀ b = some (.int b₀ bt₀)) (hj : J 0 l₀ b₀ led) (hJl : ∀ i k e nx, J i k e nx → (l, listOf vs.toArray nn) ∈ nx)
    (turn : ∀ i n t k e et u nx h tk it ito, ns[i]? = some n → J i k e nx → (∀ p ∈ nx, @Ne Nat p.1 it) → Fr g L h (fun y => if y = x then some (.int n t) else if y = a then some (.ref k) else if y = b then some (.int e et) else if y = c then u else m₀ y) → News g L h ((it, ito) :: nx) →
      wpAny (model prog w) A (execs body env) (T4End g L { s with heap := h, toks := tk } x a b c m₀ (J (i + 1)) it ito Q) E { s with heap := h, toks := tk })
    (done : ∀ k e et u v nx h tk, J ns.length k e nx → Fr g L h (fun y => if y = a then some (.ref k) else if y = b then some (.int e et) else if y = x then u else if y = c then v else m₀ y) → News g L h nx → Q .next { s with heap := h, toks := tk })
    (hL : env.locals = L := by rfl) :
    wpAny (model prog w) A (pyIter (.ref l)) (fun it s₂ => LoopAtV prog w A g env x body Q E it s₂) E s := by
  refine for_own (fun i m nx => (∀ z, z ≠ x → z ≠ a → z ≠ b → z ≠ c → m z = m₀ z) ∧ ∃ k e et, m a = some (.ref k) ∧ m b = some (.int e et) ∧ J i k e nx) hh hl hi F N ⟨fun _ _ _ _ _ => rfl, l₀, b₀, bt₀, ha, hb, hj⟩ (fun i m nx ⟨_, k, e, _, _, _, h⟩ => hJl i k e nx h) ?_ ?_ hL
  · rintro i n t m₁ nx h tk it ito hn ⟨hm, k, e, et, hk, he, hJ⟩ hne F₁ N₁
    have q : (fun y => if y = x then some (Value.int n t) else m₁ y) = fun y => if y = x then some (.int n t) else if y = a then some (.ref k) else if y = b then some (.int e et) else if y = c then m₁ c else m₀ y := by
      funext y
      by_cases h1 : y = x
      · simp only [if_pos h1]
      simp only [if_neg h1]
      by_cases h2 : y = a
      · simp only [if_pos h2]; rw [h2]; exact hk
      simp only [if_neg h2]
      by_cases h3 : y = b
      · simp only [if_pos h3]; rw [h3]; exact he
      simp only [if_neg h3]
      by_cases h4 : y = c
      · simp only [if_pos h4]; rw [h4]
      simp only [if_neg h4]
      exact hm y h1 h2 h3 h4
    rw [q] at F₁
    refine wpAny_mono (turn i n t k e et (m₁ c) nx h tk it ito hn hJ hne F₁ N₁) (fun f s₂ p => ?_) fun _ _ e => e
    have up : T4Next g L { s with heap := h, toks := tk } x a b c m₀ (J (i + 1)) it ito s₂ →
        TNext g L { s with heap := h, toks := tk } (fun m nx => (∀ z, z ≠ x → z ≠ a → z ≠ b → z ≠ c → m z = m₀ z) ∧ ∃ k e et, m a = some (.ref k) ∧ m b = some (.int e et) ∧ J (i + 1) k e nx) it ito s₂ := by
      rintro ⟨h', tk', m', l', b', bt', nx', e1, F', e2, e3, e4, N', e5, J'⟩
      exact ⟨h', tk', m', nx', e1, F', N', e5, e4, l', b', bt', e2, e3, J'⟩
    cases f with
    | ret v => exact p
    | brk => exact p
    | next => exact up p
    | cont => exact up p
  · rintro m₁ nx h tk ⟨hm, k, e, et, hk, he, hJ⟩ F₁ N₁
    have q : m₁ = fun y => if y = a then some (.ref k) else if y = b then some (.int e et) else if y = x then m₁ x else if y = c then m₁ c else m₀ y := by
      funext y
      by_cases h2 : y = a
      · simp only [if_pos h2]; rw [h2]; exact hk
      simp only [if_neg h2]
      by_cases h3 : y = b
      · simp only [if_pos h3]; rw [h3]; exact he
      simp only [if_neg h3]
      by_cases h1 : y = x
      · simp only [if_pos h1]; rw [h1]
      simp only [if_neg h1]
      by_cases h4 : y = c
      · simp only [if_pos h4]; rw [h4]
      simp only [if_neg h4]
      exact hm y h1 h2 h3 h4
    exact done k e et (m₁ x) (m₁ c) nx h tk hJ (q ▸ F₁) N₁

/-- a comprehension by an invariant over its items and the ledger -/
theorem comp_inv {prog : Program} {w : World} {A : Around} {h₀ : Heap} {L : Addr} {m : Str → Option Value} {env : Env} {elt : Expr} {x : Str} {scope : Scope} {cl : List (Str × Addr)} {s : Shared} {S : List (Addr × Obj) → Prop} {P : Nat → Value → Prop} {Fin : List Value → List (Addr × Obj) → Prop} {n : Nat} {news : List (Addr × Obj)}
    (J : Nat → List Value → List (Addr × Obj) → Prop) (h0 : J 0 [] news)
    (turn : ∀ i v I oI C oC D m₂ ys led h tk (E' : Value → Shared → Prop), i < n → P i v → LCg.NsObj oC m₂ → m₂ x = some v → Fr h₀ L h m → News h₀ L h ((I, oI) :: (C, oC) :: (D, LCg.lst ys) :: led) → LCg.Off3 I C D led → ((@Ne Nat I C) ∧ (@Ne Nat I D) ∧ (@Ne Nat C D)) → J i ys led →
      wpAny (model prog w) A (eval elt (compEnvC scope cl C env)) (LCg.CompEnd h₀ L m { s with heap := h, toks := tk } I oI C oC D (LCg.lst ys) S (fun y news' => J (i + 1) (ys ++ [y]) news')) E' { s with heap := h, toks := tk })
    (fin : ∀ ys led, J n ys led → Fin ys led) : LCg.CompRest prog w A h₀ L m env elt x scope cl s S P Fin n 0 [] news := by
  have key : ∀ (j i : Nat) (ys : List Value) (led : List (Addr × Obj)), i + j = n → J i ys led → LCg.CompRest prog w A h₀ L m env elt x scope cl s S P Fin j i ys led := by
    intro j
    induction j with
    | zero =>
      intro i ys led hi hj
      have e : i = n := by omega
      subst e
      exact LCg.CompRest.zero (fin ys led hj)
    | succ j ih =>
      intro i ys led hi hj
      refine LCg.CompRest.succ ?_
      intro v I oI C oC D m₂ h tk E' hv hC hx F N off ne
      refine wpAny_mono (turn i v I oI C oC D m₂ ys led h tk E' (by omega) hv hC hx F N off ne hj) (fun y s₂ hq => ?_) fun _ _ e => e
      obtain ⟨h', tk', nw, e, F', N', off', hS, hJ⟩ := hq
      exact ⟨h', tk', nw, e, F', N', off', hS, ih (i + 1) _ nw (by omega) hJ⟩
  exact key n 0 [] news (by omega) h0
theorem compSrc_id {prog : Program} {w : World} {A : Around} {h₀ : Heap} {L : Addr} {m : Str → Option Value} {env : Env} {elt : Expr} {x : Str} {scope : Scope} {cl : List (Str × Addr)} {Fin : Shared → List Value → List (Addr × Obj) → Prop} {xv : Value} {s₁ : Shared}
    (h : LCg.CompSrc prog w A h₀ L m env elt x scope cl Fin xv s₁) : LCg.CompSrc prog w A h₀ L m env elt x scope cl Fin xv s₁ := h
inductive WNextX (g : Heap) (L : Addr) (s : Shared) (x : Str) (m : Str → Option Value) (J : Nat → List (Addr × Obj) → Prop) (n : Nat) (s₂ : Shared) : Prop
  | mk (h' : Heap) (tk : Nat) (m' : Str → Option Value) (n' : Nat) (led' : List (Addr × Obj)) (e : s₂ = { s with heap := h', toks := tk }) (F : Fr g L h' m') (my : ∀ y, y ≠ x → m' y = m y) (N : News g L h' led') (lt : n' < n) (j : J n' led') : WNextX g L s x m J n s₂
def WEndX (g : Heap) (L : Addr) (s : Shared) (x : Str) (m : Str → Option Value) (J : Nat → List (Addr × Obj) → Prop) (Q : Flow → Shared → Prop) (n : Nat) (f : Flow) (s₂ : Shared) : Prop :=
  match f with
  | .ret v => Q (.ret v) s₂
  | .brk => Q .next s₂
  | _ => WNextX g L s x m J n s₂
/-- a while whose turn turns one name of the frame beside the ledger -/
theorem while_x {prog : Program} {w : World} {A : Around} {E : Value → Shared → Prop} {Q : Flow → Shared → Prop} {s : Shared} {env : Env} {g : Heap} {L : Addr} {test : Expr} {body : List Stmt} {pos : Pos} {m : Str → Option Value} {led : List (Addr × Obj)}
    (x : Str) (J : Nat → List (Addr × Obj) → Prop) (n₀ : Nat) (F : Fr g L s.heap m) (N : News g L s.heap led) (hJ : J n₀ led)
    (turn : ∀ n u led h tk, Fr g L h (fun y => if y = x then u else m y) → News g L h led → J n led → wpAny (model prog w) A (isTrue test env (eval test env)) (fun b s₂ =>
        if b = true then wpAny (model prog w) A (execs body env) (WEndX g L s x m J Q n) E s₂ else Q .next s₂) E { s with heap := h, toks := tk })
    (hE : PassesOwn (model prog w) A env E := by passes_own) :
    wpAny (model prog w) A (exec (.While test body [] pos) env) Q E s := by
  refine While_inv2 (fun n m' nx => (∀ y, y ≠ x → m' y = m y) ∧ J n nx) F N ⟨fun _ _ => rfl, hJ⟩ (n₀ := n₀) ?_ hE
  rintro n m₁ nx h tk F₁ N₁ ⟨hm, hJ'⟩
  have e : m₁ = fun y => if y = x then m₁ x else m y := by
    funext y
    by_cases h1 : y = x
    · simp only [h1, if_true]
    · simp only [if_neg h1, hm y h1]
  refine wpAny_mono (turn n (m₁ x) nx h tk (e ▸ F₁) N₁ hJ') (fun b s₂ p => ?_) fun _ _ x => x
  cases b with
  | false => simpa using p
  | true =>
    simp only [if_true] at p ⊢
    refine wpAny_mono p (fun f s₃ q => ?_) fun _ _ x => x
    cases f with
    | ret v => exact q
    | brk => exact q
    | next =>
      obtain ⟨h', tk', m', n', led', rfl, F', hm', N', hn, J'⟩ := q
      exact ⟨h', tk', m', led', n', rfl, F', N', hn, hm', J'⟩
    | cont =>
      obtain ⟨h', tk', m', n', led', rfl, F', hm', N', hn, J'⟩ := q
      exact ⟨h', tk', m', led', n', rfl, F', N', hn, hm', J'⟩
inductive WNextR (g : Heap) (L : Addr) (s : Shared) (x y : Str) (m : Str → Option Value) (J : Nat → Addr → List (Addr × Obj) → Prop) (n : Nat) (s₂ : Shared) : Prop
  | mk (h' : Heap) (tk : Nat) (m' : Str → Option Value) (n' : Nat) (l' : Addr) (led' : List (Addr × Obj)) (e : s₂ = { s with heap := h', toks := tk }) (F : Fr g L h' m') (mx : m' x = some (.ref l')) (mz : ∀ z, z ≠ x → z ≠ y → m' z = m z)
      (N : News g L h' led') (lt : n' < n) (j : J n' l' led') : WNextR g L s x y m J n s₂
def WEndR (g : Heap) (L : Addr) (s : Shared) (x y : Str) (m : Str → Option Value) (J : Nat → Addr → List (Addr × Obj) → Prop) (Q : Flow → Shared → Prop) (n : Nat) (f : Flow) (s₂ : Shared) : Prop :=
  match f with
  | .ret v => Q (.ret v) s₂
  | .brk => Q .next s₂
  | _ => WNextR g L s x y m J n s₂
/-- a while whose turn turns one name that holds an object and one other name of the frame -/
theorem while_r {prog : Program} {w : World} {A : Around} {E : Value → Shared → Prop} {Q : Flow → Shared → Prop} {s : Shared} {env : Env} {g : Heap} {L : Addr} {test : Expr} {body : List Stmt} {pos : Pos} {m : Str → Option Value} {led : List (Addr × Obj)}
    (x y : Str) (hxy : x ≠ y) (J : Nat → Addr → List (Addr × Obj) → Prop) (n₀ : Nat) (l₀ : Addr) (F : Fr g L s.heap m) (N : News g L s.heap led) (hx : m x = some (.ref l₀)) (hJ : J n₀ l₀ led)
    (turn : ∀ n l u led h tk, Fr g L h (fun z => if z = x then some (.ref l) else if z = y then u else m z) → News g L h led → J n l led → wpAny (model prog w) A (isTrue test env (eval test env)) (fun b s₂ =>
        if b = true then wpAny (model prog w) A (execs body env) (WEndR g L s x y m J Q n) E s₂ else Q .next s₂) E { s with heap := h, toks := tk })
    (hE : PassesOwn (model prog w) A env E := by passes_own) :
    wpAny (model prog w) A (exec (.While test body [] pos) env) Q E s := by
  refine While_inv2 (fun n m' nx => (∀ z, z ≠ x → z ≠ y → m' z = m z) ∧ ∃ l, m' x = some (.ref l) ∧ J n l nx) F N ⟨fun _ _ _ => rfl, l₀, hx, hJ⟩ (n₀ := n₀) ?_ hE
  rintro n m₁ nx h tk F₁ N₁ ⟨hm, l, hl, hJ'⟩
  have e : m₁ = fun z => if z = x then some (.ref l) else if z = y then m₁ y else m z := by
    funext z
    by_cases h1 : z = x
    · simp only [h1, if_true]; exact hl
    · simp only [if_neg h1]
      by_cases h2 : z = y
      · simp only [h2, if_true]
      · simp only [if_neg h2]; exact hm z h1 h2
  refine wpAny_mono (turn n l (m₁ y) nx h tk (e ▸ F₁) N₁ hJ') (fun b s₂ p => ?_) fun _ _ x => x
  cases b with
  | false => simpa using p
  | true =>
    simp only [if_true] at p ⊢
    refine wpAny_mono p (fun f s₃ q => ?_) fun _ _ x => x
    cases f with
    | ret v => exact q
    | brk => exact q
    | next =>
      obtain ⟨h', tk', m', n', l', led', rfl, F', hx', hm', N', hn, J'⟩ := q
      exact ⟨h', tk', m', led', n', rfl, F', N', hn, hm', l', hx', J'⟩
    | cont =>
      obtain ⟨h', tk', m', n', l', led', rfl, F', hx', hm', N', hn, J'⟩ := q
      exact ⟨h', tk', m', led', n', rfl, F', N', hn, hm', l', hx', J'⟩
local macro_rules | `(tactic| size_fits) => `(tactic| (simp only [List.size_toArray, Array.size_push, List.length_append, List.length_cons, List.length_nil, PySem.sizeLine_eq]; first | decide | exact Nat.le_trans (by assumption) (by decide) | omega))
local macro_rules | `(tactic| walk_at "num") => `(tactic| first | assumption | omega)
local macro_rules | `(tactic| walk_at "bd") => `(tactic| first | assumption | exact Bd.next (by assumption) | exact Bd.next (Bd.next (by assumption)))
local macro_rules | `(tactic| walk_at "room") => `(tactic| first | exact room_0 (by assumption) (by decide) | exact room_1 (by assumption) (by decide) | exact room_3 (by assumption) (by decide) | omega)
local macro_rules | `(tactic| walk_at "flat") => `(tactic| try dsimp only [conL, List.cons_append, List.nil_append, List.map_cons, List.map_nil])
local macro_rules | `(tactic| walk_at "pull") => `(tactic| first | exact Pull.here | (refine' Pull.there ?pa; (case pa => walk_at "pull")))
local macro_rules | `(tactic| walk_at "sel") => `(tactic| first | exact Sel.nil | (refine' Sel.cons ?sa ?sb; (case sa => walk_at "pull"); (case sb => walk_at "sel")))
local macro_rules | `(tactic| walk_at "ne1") => `(tactic| first | assumption | exact Ne.symm (by assumption) | exact Nat.ne_of_lt (by assumption) | exact Nat.ne_of_gt (by assumption) | exact Nat.ne_of_lt (lt_all (by assumption) (by k_mem)) | exact Nat.ne_of_gt (lt_all (by assumption) (by k_mem)) | exact ne_all (by assumption) (by k_mem) | exact Ne.symm (ne_all (by assumption) (by k_mem)) | walk_at "csn" | (refine Ne.symm ?_; walk_at "csn") | omega | (dsimp only; omega))
local macro_rules | `(tactic| walk_at "csn") => `(tactic| first | exact cs0 (by assumption) | exact cs1 (by assumption) | exact cs2 (by assumption) | exact cs3 (by assumption) | exact cs4 (by assumption) | exact cs5 (by assumption) | exact cs6 (by assumption) | exact cs7 (by assumption) | exact cs8 (by assumption) | exact cs9 (by assumption))
local macro_rules | `(tactic| walk_at "neAll") => `(tactic| first | (refine' And.intro ?na ?nb; (case na => walk_at "ne1"); (case nb => walk_at "neAll")) | exact True.intro | walk_at "ne1")
local macro_rules | `(tactic| walk_at "nev") => `(tactic| first | assumption | exact nev_nil | (refine' nev_cons ?va ?vb; (case va => walk_at "ne1"); (case vb => walk_at "nev")))
local macro_rules | `(tactic| k_lt $h:ident) => `(tactic| skip)
local macro_rules | `(tactic| k_ne) => `(tactic| (refine neN ?_; (try dsimp only); walk_at "ne1"))
local macro_rules | `(tactic| walk_at "tl") => `(tactic| first | assumption | exact off_of (by assumption) (by k_mem) | exact off_lt2 (by assumption) (by walk_at "sub") | exact off_ne2 (by assumption) (by walk_at "sub"))
local macro_rules | `(tactic| walk_at "offv") => `(tactic| first | exact off_v_nil | (refine' off_v_cons ?va ?vb; (case va => walk_at "tl"); (case vb => walk_at "offv")))
local macro_rules | `(tactic| walk_at "off") => `(tactic| first | exact off_nil | assumption | (refine' off_cons ?oa ?ob; (case oa => walk_at "nev"); (case ob => walk_at "off")) | walk_at "offv")
local macro_rules | `(tactic| walk_at "small") => `(tactic| first | assumption | exact Small.mono (by assumption) (by first | decide | omega) | (refine Small.put1 ?_; walk_at "small"))
local macro_rules | `(tactic| walk_at "clean") => `(tactic| ((rename News _ _ _ _ => N9); (try dsimp only [conL, List.cons_append, List.nil_append] at N9); (try dsimp only); (try k_sweep)))
local macro_rules | `(tactic| walk_at "after") => `(tactic| (refine hret_eq ?_; intro h' tk' F' N' O'; clear O'; walk_at "clean"))
local macro_rules | `(tactic| walk_at "after") => `(tactic| (refine hret_con ?_; intro colT' us' nu' ps' np' h' tk' i1' i2' F' N' O'; clear O'; walk_at "clean"))
local macro_rules | `(tactic| walk_at "after") => `(tactic| (refine hret_conp ?_; intro colT' us' nu' ps' np' h' tk' i1' i2' F' N' O'; clear O'; walk_at "clean"))
local macro_rules | `(tactic| walk_at "sides") => `(tactic| (
  (try case ok => assumption); (try case i1 => assumption); (try case i2 => assumption); (try case i3 => walk_at "ints"); (try case oo => walk_at "offc"); (try case zk => walk_at "num"); (try case hk => assumption); (try case iv => assumption);
  (try case hd => walk_at "twD"); (try case bb => walk_at "num"); (try case tb => exact Bd.nn (by walk_at "bd")); (try case t2 => exact Bd.le (by walk_at "bd") (by decide)); (try case b2 => walk_at "num"); (try case hn => walk_at "num"); (try case k8 => assumption); (try case k127 => assumption); (try case hkey => assumption); (try case ne => walk_at "ne1"); (try case h9 => assumption); (try case hS => assumption); (try case hK => assumption); (try case hR => assumption); (try case hm => decide); (try case hm2 => decide); (try case hc => first | assumption | omega); (try case hC => first | assumption | omega); (try case h7 => walk_at "no127")))
local macro_rules | `(tactic| walk_at "ints") => `(tactic| first | assumption | exact IntsAre.nil | (refine' IntsAre.cons _ _ ?ia; (case ia => walk_at "ints")))
local macro_rules | `(tactic| walk_at "mycall") => `(tactic| (k_here; (with_reducible show wpAny _ _ (call (Value.ref _) _) _ _ _); k_dflt (refine' Tell.use ?kC ?kB ?kF ?kX ?kN ?kT ?kS ?kO ?kk ?kd ?ku ?_; (case' kC => walk_at "told"); (case kB => k_asm); (case kF => k_asm); (case kX => k_asm); (case kN => k_asm); (case kT => k_asm); (case kS => walk_at "sel"); walk_at "sides"; (try case zz => walk_at "small"); (case kO => (walk_at "flat"; walk_at "off")); (case kk => exact rfl); (case kd => walk_at "room"); (case ku => walk_at "room"); k_whole; walk_at "after")))
local macro_rules | `(tactic| walk_at "one") => `(tactic| (first | (k_unfold; (try dsimp only)) | (dsimp only; k_unfold; (try dsimp only)) | (k_end; wrow_close) | walk1 | (dsimp only; walk1) | (leave1; walk_say "STEP leave1"; try dsimp only)))
local macro_rules | `(tactic| walk_at "noWhile") => `(tactic| (fail_if_success (with_reducible show wpAny _ _ (exec (Stmt.While _ _ _ _) _) _ _ _)))
local macro_rules | `(tactic| walk_at "noIter") => `(tactic| (fail_if_success (with_reducible show wpAny _ _ (pyIter (Value.ref _)) _ _ _)))
local macro_rules | `(tactic| walk_at "noCall") => `(tactic| (fail_if_success (with_reducible show wpAny _ _ (call (Value.ref _) _) _ _ _)))
local macro_rules | `(tactic| walk_at "isCall") => `(tactic| (with_reducible show wpAny _ _ (call (Value.ref _) _) _ _ _))
local macro_rules | `(tactic| walk_at "go") => `(tactic| repeat' (first
  | (walk_at "isCall"; walk_at "mycall")
  | (walk_at "noCall"; walk_at "noWhile"; walk_at "noIter"; walk_at "one")
  | fail "no step"))
local macro_rules | `(tactic| walk_at "goP") => `(tactic| repeat' (first
  | (walk_at "isCall"; walk_at "mycall")
  | (walk_at "noCall"; walk_at "noWhile"; walk_at "one")
  | fail "no step"))
local macro_rules | `(tactic| walk_at "sub") => `(tactic| first | exact sub_nil | (refine' sub_cons ?ma ?mb; (case ma => k_mem); (case mb => walk_at "sub")) | (intro p9 hp9; simp only [List.mem_cons, hp9, or_true]; done))
local macro_rules | `(tactic| walk_at "newsOf") => `(tactic| (refine' kst_newsOf (by assumption) ?su; (case su => (walk_at "flat"; walk_at "sub"))))
local macro_rules | `(tactic| walk_at "nes") => `(tactic| (walk_at "flat"; walk_at "nes1"))
local macro_rules | `(tactic| walk_at "nes1") => `(tactic| first | assumption | exact nes_nil | (refine' nes_cons ?na ?nb; (case na => walk_at "ne1"); (case nb => walk_at "nes1")) | walk_at "tl")
local macro_rules | `(tactic| walk_at "turnE") => `(tactic| (
  refine' ⟨_, _, _, _, rfl, ?kF, ?kN, ?ne, fun y hy => if_neg hy, _, rfl, ⟨?v1, ?v2, ?v3, ?v4, ?v5, rfl, ?c1, ?c2⟩⟩;
  (case kF => k_asm); (case c1 => assumption); (case c2 => assumption); (case kN => walk_at "newsOf"); (case ne => walk_at "nes")))
local macro_rules | `(tactic| walk_at "noComp") => `(tactic| (fail_if_success (with_reducible refine compSrc_id ?_)))
local macro_rules | `(tactic| walk_at "noSign") => `(tactic| (fail_if_success (with_reducible show wpAny _ _ (exec (Stmt.For (Expr.Name (PySem.Str.ofString "sign") _) _ _ _ _) _) _ _ _)))
local macro_rules | `(tactic| walk_at "noSub") => `(tactic| (fail_if_success (with_reducible show wpAny _ _ (subscriptTail _ _ (Value.ref _) (Value.int _ _)) _ _ _)))
local macro_rules | `(tactic| walk_at "goS") => `(tactic| repeat' (first
  | (walk_at "isCall"; walk_at "mycall")
  | (walk_at "noCall"; walk_at "noSub"; walk_at "one")
  | fail "no step"))
theorem fill {w : World} {h : Heap} (X : (hd.heap_39 w.params).In h) : PySem.Challenge.rw_rh0267_01.row.prog = PySem.Challenge.rw_rh0267_01.row.prog ∧ (hd.heap_39 w.params).In h := by
  k_fill
  exact ⟨rfl, X⟩

theorem show_raw_tell {w : World} {c : CS} {st : St} {ix : Int} {ixT colT : Tok} {beg : Int} {begT : Tok} {us : List Value} {nu : Nat} {ps : List Value} {np : Nat} {o : Int} {t : Tok}
    (hok : c.Ok) (h1 : IntsAre us st.shown) (h2 : IntsAre ps st.printed) (hz : Small st 1) :
    Tell w 56 1 100 [.ref c.x, .int o t] (conL c ix ixT st colT beg begT us nu ps np) (fun r post => r = .none ∧ ConPost c ix ixT (put1 st o) beg begT post) := by
  refine tell_of (binds := [(Str.ofString "console", .ref c.x), (Str.ofString "octet", .int o t)]) (by k_is) (by k_is) (fun s => BindsTo.of_eq rfl) (locs rfl) rfl rfl rfl (by exact (by decide)) ?_
  have z1 : us.length ≤ 999999 := by have := h1.length; have := hz.1; omega
  have z2 : ps.length ≤ 999999 := by have := h2.length; have := hz.2; omega
  intro loose mean mg mb dp un gd outer A₀ base g L s B F X N T hdp hun
  k_fold
  k_steps
  all_goals (
    refine ⟨_, _, _, _, rfl, by k_asm, by k_asm, rfl, conPost_of ?_ rfl (ints_push h1 _ _) ?_⟩
    · simp only [put1, colOf]
      (repeat' split) <;> first | rfl | omega
    · first
        | (rw [show (put1 st o).printed = st.printed ++ [o] from if_pos (by assumption)]; exact ints_push h2 _ _)
        | (rw [show (put1 st o).printed = st.printed from if_neg (by simpa using (by assumption : st.on = false))]; exact h2)
        | skip)
local macro_rules | `(tactic| walk_at "told") => `(tactic| refine' show_raw_tell ?ok ?i1 ?i2 ?zz)
def puts (st : St) (os : List Int) : St := os.foldl put1 st
def showP (st : St) (o : Int) : St := if o = 9 then puts st (List.replicate (8 - st.col % 8).toNat 32) else put1 st o

def tabN (col : Int) : Nat := if col % 8 = 0 then 0 else (8 - col % 8).toNat
theorem puts_cons (st : St) (o : Int) (os : List Int) : puts st (o :: os) = puts (put1 st o) os := rfl
theorem col_put32 (st : St) : (put1 st 32).col = st.col + 1 := by simp [put1, colOf]
theorem tabN_step {st : St} (h : st.col % 8 ≠ 0) : tabN st.col = tabN (put1 st 32).col + 1 := by
  rw [col_put32]; unfold tabN; rw [if_neg h]; split <;> omega
theorem tabN_first (st : St) : (8 - st.col % 8).toNat = tabN (put1 st 32).col + 1 := by
  rw [col_put32]; unfold tabN; split <;> omega
theorem show_tell {w : World} {c : CS} {st : St} {ix : Int} {ixT colT : Tok} {beg : Int} {begT : Tok} {us : List Value} {nu : Nat} {ps : List Value} {np : Nat} {o : Int} {t : Tok}
    (hok : c.Ok) (h1 : IntsAre us st.shown) (h2 : IntsAre ps st.printed) (hz : Small st 9) :
    Tell w 63 2 200 [.ref c.x, .int o t] (conL c ix ixT st colT beg begT us nu ps np) (fun r post => r = .none ∧ ConPost c ix ixT (showP st o) beg begT post) := by
  refine tell_of (binds := [(Str.ofString "console", .ref c.x), (Str.ofString "octet", .int o t)]) (by k_is) (by k_is) (fun s => BindsTo.of_eq rfl) (locs rfl) rfl rfl rfl (by exact (by decide)) ?_
  intro loose mean mg mb dp un gd outer A₀ base g L s B F X N T hdp hun
  k_fold
  walk_at "go"
  · exact ⟨_, _, _, _, rfl, by k_asm, by k_asm, rfl, by rw [show showP st o = put1 st o from if_neg (by assumption)]; exact ⟨_, _, _, _, _, rfl, by assumption, by assumption⟩⟩
  · (rename News _ _ _ _ => N1); (rename Fr _ _ _ _ => F1); (rename o = 9 => ho)
    refine while_m (fun n led => ∃ st', ConPost c ix ixT st' beg begT led ∧ n = tabN st'.col ∧ puts st' (List.replicate n 32) = showP st o ∧ Small st' (n + 1)) (tabN (put1 st 32).col) F1 N1 ⟨put1 st 32, ⟨_, _, _, _, _, rfl, by assumption, by assumption⟩, rfl, ?_, ?_⟩ ?_
    · rw [showP, if_pos ho, tabN_first, List.replicate_succ, puts_cons]
    · have : tabN (put1 st 32).col ≤ 7 := by unfold tabN; split <;> omega
      exact Small.put1 (Small.mono hz (by omega))
    clear N1 F1
    rintro n led h tk F N ⟨st', ⟨colT', us', nu', ps', np', rfl, i1, i2⟩, hn, he, hsm⟩
    k_fold
    walk_at "go"
    · (rename Int.fmod _ _ ≠ 0 => hc); rw [Int.fmod_eq_emod_of_nonneg _ (by decide)] at hc
      have hs := tabN_step hc
      dsimp only [WEnd]
      refine ⟨_, _, _, _, rfl, by k_asm, by k_asm, ?_, put1 st' 32, ⟨_, _, _, _, _, rfl, by assumption, by assumption⟩, rfl, ?_, ?_⟩
      · omega
      · rw [← he, hn, hs, List.replicate_succ, puts_cons]
      · exact Small.put1 (Small.mono hsm (by omega))
    · (rename Int.fmod _ _ = 0 => hc); rw [Int.fmod_eq_emod_of_nonneg _ (by decide)] at hc
      have hs : showP st o = st' := by rw [← he, hn, tabN, if_pos hc]; rfl
      exact ⟨_, _, _, _, rfl, by k_asm, by k_asm, rfl, by rw [hs]; exact ⟨_, _, _, _, _, rfl, by assumption, by assumption⟩⟩
local macro_rules | `(tactic| walk_at "told") => `(tactic| refine' show_tell ?ok ?i1 ?i2 ?zz)
theorem Small.puts {k : Nat} : ∀ {os : List Int} {st : St}, Small st (k + os.length) → Small (puts st os) k
  | [], _, h => h
  | o :: os, st, h => by
    have : Small st ((k + os.length) + 1) := h
    exact Small.puts (os := os) (Small.put1 this)
theorem Small.showP {st : St} {k : Nat} {o : Int} (h : Small st (k + 8)) : Small (showP st o) k := by
  unfold Mine.showP
  split
  · exact Small.puts (Small.mono h (by rw [List.length_replicate]; omega))
  · exact Small.put1 (Small.mono h (by omega))
def CS.Off (c : CS) (a : Nat) : Prop := a ≠ c.x ∧ a ≠ c.dx ∧ a ≠ c.sl ∧ a ≠ c.pl
def showsP (st : St) (os : List Int) : St := os.foldl showP st
theorem showsP_snoc (st : St) (os : List Int) (o : Int) : showsP st (os ++ [o]) = showP (showsP st os) o := by simp [showsP]
theorem Small.showsP {k : Nat} : ∀ {os : List Int} {st : St}, Small st (k + 8 * os.length) → Small (showsP st os) k
  | [], _, h => h
  | o :: os, st, h => Small.showsP (os := os) (Small.showP (Small.mono h (by rw [List.length_cons]; omega)))
theorem flat_rep {α : Type} (n : Nat) (a : α) : (List.replicate n [a]).flatten = List.replicate n a := by
  induction n with
  | zero => rfl
  | succ n ih => simp only [List.replicate_succ, List.flatten_cons, ih, List.cons_append, List.nil_append]
local macro_rules | `(tactic| walk_at "small") => `(tactic| first | assumption | exact Small.mono (by assumption) (by first | decide | omega | (simp only [flat_rep, List.length_replicate, List.length_cons, List.length_nil, List.length_append]; omega)) | (refine Small.put1 ?_; walk_at "small"))
def isCtl (o : Int) : Bool := decide (o < 32) && ![13, 10, 9, 8].any fun x : Int => x == o
theorem is_control_tell {w : World} {o : Int} {t : Tok} : Tell w 70 1 100 [.int o t] [] (fun r post => r = .bool (isCtl o) ∧ post = []) := by
  refine tell_of (binds := [(Str.ofString "octet", .int o t)]) (by k_is) (by k_is) (fun s => BindsTo.of_eq rfl) (locs rfl) rfl rfl rfl (by exact (by decide)) ?_
  intro loose mean mg mb dp un gd outer A₀ base g L s B F X N T hdp hun
  k_fold
  walk_at "go"
  all_goals exact ⟨_, _, _, [], rfl, by k_asm, News.nil, by simp [isCtl, retOf, *], rfl⟩
local macro_rules | `(tactic| walk_at "told") => `(tactic| refine' is_control_tell)
def echoP (st : St) (o : Int) : St := if isCtl o = true then put1 (put1 st 94) (o + 64) else showP st o
theorem echo_tell {w : World} {c : CS} {st : St} {ix : Int} {ixT colT : Tok} {beg : Int} {begT : Tok} {us : List Value} {nu : Nat} {ps : List Value} {np : Nat} {o : Int} {t : Tok}
    (hok : c.Ok) (h1 : IntsAre us st.shown) (h2 : IntsAre ps st.printed) (hz : Small st 9) :
    Tell w 77 3 400 [.ref c.x, .int o t] (conL c ix ixT st colT beg begT us nu ps np) (fun r post => r = .none ∧ ConPost c ix ixT (echoP st o) beg begT post) := by
  refine tell_of (binds := [(Str.ofString "console", .ref c.x), (Str.ofString "octet", .int o t)]) (by k_is) (by k_is) (fun s => BindsTo.of_eq rfl) (locs rfl) rfl rfl rfl (by exact (by decide)) ?_
  intro loose mean mg mb dp un gd outer A₀ base g L s B F X N T hdp hun
  k_fold
  walk_at "go"
  · exact ⟨_, _, _, _, rfl, by k_asm, by k_asm, rfl, by rw [show echoP st o = put1 (put1 st 94) (o + 64) from if_pos (by assumption)]; exact ⟨_, _, _, _, _, rfl, by assumption, by assumption⟩⟩
  · exact ⟨_, _, _, _, rfl, by k_asm, by k_asm, rfl, by rw [show echoP st o = showP st o from if_neg (by simpa using (by assumption : isCtl o = false))]; exact ⟨_, _, _, _, _, rfl, by assumption, by assumption⟩⟩
theorem new_line_tell {w : World} {c : CS} {st : St} {ix : Int} {ixT colT : Tok} {beg : Int} {begT : Tok} {us : List Value} {nu : Nat} {ps : List Value} {np : Nat}
    (hok : c.Ok) (h1 : IntsAre us st.shown) (h2 : IntsAre ps st.printed) (hz : Small st 2) :
    Tell w 91 2 300 [.ref c.x] (conL c ix ixT st colT beg begT us nu ps np) (fun r post => r = .none ∧ ConPost c ix ixT (put1 (put1 st 13) 10) beg begT post) := by
  refine tell_of (binds := [(Str.ofString "console", .ref c.x)]) (by k_is) (by k_is) (fun s => BindsTo.of_eq rfl) (locs rfl) rfl rfl rfl (by exact (by decide)) ?_
  intro loose mean mg mb dp un gd outer A₀ base g L s B F X N T hdp hun
  k_fold
  walk_at "go"
  all_goals exact ⟨_, _, _, _, rfl, by k_asm, by k_asm, rfl, ⟨_, _, _, _, _, rfl, by assumption, by assumption⟩⟩
local macro_rules | `(tactic| walk_at "told") => `(tactic| refine' echo_tell ?ok ?i1 ?i2 ?zz)
local macro_rules | `(tactic| walk_at "told") => `(tactic| refine' new_line_tell ?ok ?i1 ?i2 ?zz)
theorem show_text_tell {w : World} {c : CS} {st : St} {ix : Int} {ixT colT : Tok} {beg : Int} {begT : Tok} {us : List Value} {nu : Nat} {ps : List Value} {np : Nat} {ol : Nat} {vs : List Value} {ns : List Int} {nn : Nat}
    (hok : c.Ok) (h1 : IntsAre us st.shown) (h2 : IntsAre ps st.printed) (hv : IntsAre vs ns) (ho : c.Off ol) (hz : Small st (9 + 8 * ns.length)) :
    Tell w 84 3 400 [.ref c.x, .ref ol] (conL c ix ixT st colT beg begT us nu ps np ++ [(ol, listOf vs.toArray nn)]) (fun r post => r = .none ∧ ∃ p1, post = p1 ++ [(ol, listOf vs.toArray nn)] ∧ ConPost c ix ixT (showsP st ns) beg begT p1) := by
  refine tell_of (binds := [(Str.ofString "console", .ref c.x), (Str.ofString "octets", .ref ol)]) (by k_is) (by k_is) (fun s => BindsTo.of_eq rfl) (locs rfl) rfl rfl rfl (by exact (by decide)) ?_
  obtain ⟨o1, o2, o3, o4⟩ := id ho
  intro loose mean mg mb dp un gd outer A₀ base g L s B F X N T hdp hun
  dsimp only [conL, List.cons_append, List.nil_append] at N
  k_fold
  walk_at "go"
  (rename Fr _ _ _ _ => F); (rename News _ _ _ _ => N)
  refine for_ownM (fun i nx => ∃ p1, nx = p1 ++ [(ol, listOf vs.toArray nn)] ∧ ConPost c ix ixT (showsP st (ns.take i)) beg begT p1) rfl (by k_mem) hv F N ⟨conL c ix ixT st colT beg begT us nu ps np, rfl, ⟨_, _, _, _, _, rfl, h1, h2⟩⟩ (by rintro i nx ⟨p1, rfl, _⟩; exact List.mem_append_right _ (.head _)) ?_ ?_
  · clear N F
    intro i n t nx h tk it ito hn
    revert nx
    refine jcon ?_
    intro colT' us' nu' ps' np' i1 i2 hne F N
    have hzi : Small (showsP st (ns.take i)) 9 := Small.showsP (Small.mono hz (by have := (List.length_take_le' i ns); omega))
    dsimp only [conL, List.cons_append, List.nil_append] at hne N
    with_reducible show wpAny _ _ _ _ _ _
    k_fold
    walk_at "go"
    dsimp only [TEnd]
    rw [take_snoc hn, showsP_snoc]
    walk_at "turnE"
  · intro u nx h tk
    revert nx
    refine jcon ?_
    intro colT' us' nu' ps' np' i1 i2 F N
    rw [List.take_length] at i1 i2 N
    with_reducible show wpAny _ _ _ _ _ _
    walk_at "go"
    exact ⟨_, _, _, _, rfl, by k_asm, by k_asm, rfl, _, rfl, ⟨_, _, _, _, _, rfl, by assumption, by assumption⟩⟩
local macro_rules | `(tactic| walk_at "offc") => `(tactic| ((first | dsimp only [CS.Off] | skip); walk_at "neAll"))
local macro_rules | `(tactic| walk_at "told") => `(tactic| refine' show_text_tell ?ok ?i1 ?i2 ?i3 ?oo ?zz)
def backsP (st : St) : Nat → St
  | 0 => st
  | n + 1 => backsP (put1 (put1 (put1 st 8) 32) 8) n
theorem back_col {st : St} (h : 1 ≤ st.col) : (put1 (put1 (put1 st 8) 32) 8).col = st.col - 1 := by
  simp only [put1, colOf]; simp; omega
theorem end_column_tell {w : World} {beg : Int} {begT : Tok} {ol nn : Nat} :
    Tell w 105 1 300 [.ref ol, .int beg begT] [(ol, listOf ([] : List Value).toArray nn)] (fun r post => ∃ t, r = .int beg t ∧ post = [(ol, listOf ([] : List Value).toArray nn)]) := by
  refine tell_of (binds := [(Str.ofString "octets", .ref ol), (Str.ofString "begin", .int beg begT)]) (by k_is) (by k_is) (fun s => BindsTo.of_eq rfl) (locs rfl) rfl rfl rfl (by exact (by decide)) ?_
  intro loose mean mg mb dp un gd outer A₀ base g L s B F X N T hdp hun
  k_fold
  walk_at "go"
  (rename Fr _ _ _ _ => F); (rename News _ _ _ _ => N)
  refine for_ownM (fun i nx => nx = [(ol, listOf ([] : List Value).toArray nn)]) rfl (by k_mem) .nil F N rfl (by rintro i nx rfl; exact .head _) (fun i n t nx h tk it ito hn => by cases hn) ?_
  rintro u nx h tk rfl F N
  with_reducible show wpAny _ _ _ _ _ _
  walk_at "go"
  exact ⟨_, _, _, _, rfl, by k_asm, by k_asm, _, rfl, rfl⟩
theorem hret_ecol {G : Value → List (Addr × Obj) → Heap → Nat → Prop} {v : Int} {p : List (Addr × Obj)} (k : ∀ t h tk, G (.int v t) p h tk) : ∀ r post h tk, (∃ t, r = .int v t ∧ post = p) → G r post h tk := by
  rintro r post h tk ⟨t, rfl, rfl⟩; exact k t h tk
local macro_rules | `(tactic| walk_at "after") => `(tactic| (refine hret_ecol ?_; intro t' h' tk' F' N' O'; clear O'; walk_at "clean"))
local macro_rules | `(tactic| walk_at "told") => `(tactic| refine' end_column_tell)
theorem step_back_tell {w : World} {c : CS} {st : St} {ix : Int} {ixT colT : Tok} {beg : Int} {begT : Tok} {us : List Value} {nu : Nat} {ps : List Value} {np : Nat} {ol nn : Nat}
    (hok : c.Ok) (h1 : IntsAre us st.shown) (h2 : IntsAre ps st.printed) (ho : c.Off ol) (hb : 0 ≤ beg) (hz : Small st (3 * (st.col - beg).toNat + 3)) :
    Tell w 112 3 600 [.ref c.x, .ref ol] (conL c ix ixT st colT beg begT us nu ps np ++ [(ol, listOf ([] : List Value).toArray nn)]) (fun r post => r = .none ∧ ∃ p1, post = p1 ++ [(ol, listOf ([] : List Value).toArray nn)] ∧ ConPost c ix ixT (backsP st (st.col - beg).toNat) beg begT p1) := by
  refine tell_of (binds := [(Str.ofString "console", .ref c.x), (Str.ofString "octets", .ref ol)]) (by k_is) (by k_is) (fun s => BindsTo.of_eq rfl) (locs rfl) rfl rfl rfl (by exact (by decide)) ?_
  obtain ⟨o1, o2, o3, o4⟩ := id ho
  intro loose mean mg mb dp un gd outer A₀ base g L s B F X N T hdp hun
  dsimp only [conL, List.cons_append, List.nil_append] at N
  k_fold
  walk_at "go"
  (rename Fr _ _ _ _ => F); (rename News _ _ _ _ => N)
  refine while_x (Str.ofString "octet") (fun n led => ∃ p1 st', led = (ol, listOf ([] : List Value).toArray nn) :: p1 ∧ ConPost c ix ixT st' beg begT p1 ∧ n = (st'.col - beg).toNat ∧ backsP st' n = backsP st (st.col - beg).toNat ∧ Small st' (3 * n + 3))
    (st.col - beg).toNat F N ⟨_, st, rfl, ⟨_, _, _, _, _, rfl, h1, h2⟩, rfl, rfl, hz⟩ ?_
  clear F N
  rintro n u led h tk F N ⟨p1, st', rfl, ⟨colT', us', nu', ps', np', rfl, i1, i2⟩, hn, he, hsm⟩
  dsimp only [conL] at N
  with_reducible show wpAny _ _ _ _ _ _
  k_fold
  walk_at "goP"
  · have hc : 1 ≤ st'.col := by omega
    have hd := back_col hc
    have hn' : n = (st'.col - 1 - beg).toNat + 1 := by omega
    dsimp only [WEndX]
    refine' ⟨_, _, _, _, _, rfl, ?kF, ?hm, ?kN, ?lt, _, put1 (put1 (put1 st' 8) 32) 8, rfl, ⟨?v1, ?v2, ?v3, ?v4, ?v5, rfl, ?c1, ?c2⟩, rfl, ?ee, ?sm⟩
    case kF => k_asm
    case c1 => assumption
    case c2 => assumption
    case kN => exact kst_newsOf (by assumption) (by walk_at "sub")
    case hm => intro y hy; simp only [if_neg hy]
    case lt => rw [hd]; omega
    case ee => rw [hd, ← he, hn']; rfl
    case sm => rw [hd]; exact Small.put1 (Small.put1 (Small.put1 (Small.mono hsm (by omega))))
  · have hn0 : n = 0 := by omega
    rw [hn0] at he
    rw [show backsP st (st.col - beg).toNat = st' from he.symm]
    refine' ⟨_, _, _, _, rfl, ?xF, ?xN, rfl, _, rfl, ⟨?w1, ?w2, ?w3, ?w4, ?w5, rfl, ?d1, ?d2⟩⟩
    case xF => k_asm
    case d1 => exact i1
    case d2 => exact i2
    case xN => exact kst_newsOf (by assumption) (by walk_at "sub")
local macro_rules | `(tactic| walk_at "told") => `(tactic| refine' step_back_tell ?ok ?i1 ?i2 ?oo ?bb ?zz)
def echoesP (st : St) (os : List Int) : St := os.foldl echoP st
theorem echoesP_snoc (st : St) (os : List Int) (o : Int) : echoesP st (os ++ [o]) = echoP (echoesP st os) o := by simp [echoesP]
theorem Small.echoP {st : St} {k : Nat} {o : Int} (h : Small st (k + 8)) : Small (echoP st o) k := by
  unfold Mine.echoP
  split
  · exact Small.put1 (Small.put1 (Small.mono h (by omega)))
  · exact Small.showP h
theorem Small.echoesP {k : Nat} : ∀ {os : List Int} {st : St}, Small st (k + 8 * os.length) → Small (echoesP st os) k
  | [], _, h => h
  | o :: os, st, h => Small.echoesP (os := os) (Small.echoP (Small.mono h (by rw [List.length_cons]; omega)))
def retypeP (st : St) (beg : Int) (ns : List Int) : St := echoesP (showsP (put1 (put1 (put1 st 35) 13) 10) (List.replicate beg.toNat 32)) ns
theorem retyped_tell {w : World} {c : CS} {st : St} {ix : Int} {ixT colT : Tok} {beg : Int} {begT : Tok} {us : List Value} {nu : Nat} {ps : List Value} {np : Nat} {ol : Nat} {vs : List Value} {ns : List Int} {nn : Nat}
    (hok : c.Ok) (h1 : IntsAre us st.shown) (h2 : IntsAre ps st.printed) (hv : IntsAre vs ns) (ho : c.Off ol) (hb : 0 ≤ beg) (hb2 : beg ≤ 1000) (hz : Small st (20 + 8 * beg.toNat + 8 * ns.length)) :
    Tell w 119 5 800 [.ref c.x, .ref ol] (conL c ix ixT st colT beg begT us nu ps np ++ [(ol, listOf vs.toArray nn)]) (fun r post => r = .none ∧ ∃ p1, post = p1 ++ [(ol, listOf vs.toArray nn)] ∧ ConPost c ix ixT (retypeP st beg ns) beg begT p1) := by
  refine tell_of (binds := [(Str.ofString "console", .ref c.x), (Str.ofString "octets", .ref ol)]) (by k_is) (by k_is) (fun s => BindsTo.of_eq rfl) (locs rfl) rfl rfl rfl (by exact (by decide)) ?_
  obtain ⟨o1, o2, o3, o4⟩ := id ho
  intro loose mean mg mb dp un gd outer A₀ base g L s B F X N T hdp hun
  dsimp only [conL, List.cons_append, List.nil_append] at N
  k_fold
  walk_at "go"
  (rename Fr _ _ _ _ => F); (rename News _ _ _ _ => N)
  (rename IntsAre _ (showsP _ _).shown => j1); (rename IntsAre _ (showsP _ _).printed => j2)
  rw [flat_rep] at j1 j2; simp only [flat_rep] at N
  have hz1 : Small (showsP (put1 (put1 (put1 st 35) 13) 10) (List.replicate beg.toNat 32)) (9 + 8 * ns.length) :=
    Small.showsP (Small.put1 (Small.put1 (Small.put1 (Small.mono hz (by rw [List.length_replicate]; omega)))))
  obtain ⟨st1, hs1⟩ : ∃ x, x = showsP (put1 (put1 (put1 st 35) 13) 10) (List.replicate beg.toNat 32) := ⟨_, rfl⟩
  have hs2 : retypeP st beg ns = echoesP st1 ns := by rw [hs1]; rfl
  rw [← hs1] at j1 j2 hz1; simp only [← hs1] at N
  refine for_ownM (fun i nx => ∃ p1, nx = p1 ++ [(ol, listOf vs.toArray nn)] ∧ ConPost c ix ixT (echoesP st1 (ns.take i)) beg begT p1) rfl ?gm hv F (led := _) ?gN ⟨_, rfl, ⟨?v1, ?v2, ?v3, ?v4, ?v5, rfl, ?c1, ?c2⟩⟩ (by rintro i nx ⟨p1, rfl, _⟩; exact List.mem_append_right _ (.head _)) ?g1 ?g2
  case c1 => exact j1
  case c2 => exact j2
  case gN => exact kst_newsOf N (by walk_at "sub")
  case gm => k_mem
  case g1 =>
    clear N F
    intro i n t nx h tk it ito hn
    revert nx
    refine jcon ?_
    intro colT' us' nu' ps' np' i1 i2 hne F N
    have hzi : Small (echoesP st1 (ns.take i)) 9 := Small.echoesP (Small.mono hz1 (by have := (List.length_take_le' i ns); omega))
    dsimp only [conL, List.cons_append, List.nil_append] at hne N
    with_reducible show wpAny _ _ _ _ _ _
    k_fold
    walk_at "go"
    dsimp only [TEnd]
    rw [take_snoc hn, echoesP_snoc]
    walk_at "turnE"
  case g2 =>
    intro u nx h tk
    revert nx
    refine jcon ?_
    intro colT' us' nu' ps' np' i1 i2 F N
    rw [List.take_length, ← hs2] at i1 i2 N
    with_reducible show wpAny _ _ _ _ _ _
    walk_at "go"
    exact ⟨_, _, _, _, rfl, by k_asm, by k_asm, rfl, _, rfl, ⟨_, _, _, _, _, rfl, by assumption, by assumption⟩⟩
local macro_rules | `(tactic| walk_at "told") => `(tactic| refine' retyped_tell ?ok ?i1 ?i2 ?i3 ?oo ?bb ?b2 ?zz)
def editP (st : St) (beg : Int) (ns : List Int) (key : Int) : St × Int × List Int :=
  if key = 21 then (retypeP st beg [], beg, [])
  else if key = 24 then (backsP st (st.col - beg).toNat, beg, [])
  else if key = 18 then (retypeP st beg ns, beg, ns)
  else if key = 5 then (put1 (put1 st 13) 10, 0, ns)
  else if key = 16 then ({ st with on := !st.on }, beg, ns)
  else (echoP st key, beg, ns ++ [key])
local macro_rules | `(tactic| walk_at "edE") => `(tactic| (
  refine' ⟨_, _, _, _, rfl, ?kF, ?kN, _, ?b1, _, ?b2, ?b3, rfl, rfl, ?of, ?iv, ⟨?v1, ?v2, ?v3, ?v4, ?v5, rfl, ?c1, ?c2⟩⟩;
  (case kF => k_asm); (case iv => first | exact IntsAre.nil | assumption); (case c1 => assumption); (case c2 => assumption); (case kN => walk_at "newsOf"); (case of => walk_at "offc")))
theorem edited_tell {w : World} {c : CS} {st : St} {ix : Int} {ixT colT : Tok} {beg : Int} {begT : Tok} {us : List Value} {nu : Nat} {ps : List Value} {np : Nat} {ol : Nat} {vs : List Value} {ns : List Int} {nn : Nat} {key : Int} {t : Tok}
    (hok : c.Ok) (h1 : IntsAre us st.shown) (h2 : IntsAre ps st.printed) (hv : IntsAre vs ns) (ho : c.Off ol) (hb : 0 ≤ beg) (hb2 : beg ≤ 1000) (hn : ns.length ≤ 1000) (hk8 : key ≠ 8) (hk127 : key ≠ 127)
    (hz : Small st (20 + 8 * beg.toNat + 8 * ns.length + 3 * (st.col - beg).toNat)) :
    Tell w 126 6 1200 [.ref c.x, .ref ol, .int key t] (conL c ix ixT st colT beg begT us nu ps np ++ [(ol, listOf vs.toArray nn)]) (fun r post => ∃ l begT' p1 vs' nn', r = .ref l ∧ post = p1 ++ [(l, listOf vs'.toArray nn')] ∧ c.Off l ∧ IntsAre vs' (editP st beg ns key).2.2 ∧ ConPost c ix ixT (editP st beg ns key).1 (editP st beg ns key).2.1 begT' p1) := by
  refine tell_of (binds := [(Str.ofString "console", .ref c.x), (Str.ofString "octets", .ref ol), (Str.ofString "key", .int key t)]) (by k_is) (by k_is) (fun s => BindsTo.of_eq rfl) (locs rfl) rfl rfl rfl (by exact (by decide)) ?_
  obtain ⟨o1, o2, o3, o4⟩ := id ho
  have hvl := hv.length
  intro loose mean mg mb dp un gd outer A₀ base g L s B F X N T hdp hun
  dsimp only [conL, List.cons_append, List.nil_append] at N
  k_fold
  walk_at "go"
  all_goals (show DefEnd _ _ _ _ _ _; (try dsimp only))
  · exact absurd (by assumption) hk8
  · exact absurd (by assumption) hk127
  · rw [show editP st beg ns key = (retypeP st beg [], beg, []) from by unfold editP; rw [if_pos (by assumption)]]; dsimp only; walk_at "edE"
  · rw [show editP st beg ns key = (backsP st (st.col - beg).toNat, beg, []) from by unfold editP; rw [if_neg (by assumption), if_pos (by assumption)]]; dsimp only; walk_at "edE"
  · rw [show editP st beg ns key = (retypeP st beg ns, beg, ns) from by unfold editP; rw [if_neg (by assumption), if_neg (by assumption), if_pos (by assumption)]]; dsimp only; walk_at "edE"
  · rw [show editP st beg ns key = (put1 (put1 st 13) 10, 0, ns) from by unfold editP; rw [if_neg (by assumption), if_neg (by assumption), if_neg (by assumption), if_pos (by assumption)]]; dsimp only; walk_at "edE"
  · rw [show editP st beg ns key = ({ st with on := !st.on }, beg, ns) from by unfold editP; rw [if_neg (by assumption), if_neg (by assumption), if_neg (by assumption), if_neg (by assumption), if_pos (by assumption)]]; dsimp only; walk_at "edE"
  · rw [show editP st beg ns key = (echoP st key, beg, ns ++ [key]) from by unfold editP; rw [if_neg (by assumption), if_neg (by assumption), if_neg (by assumption), if_neg (by assumption), if_neg (by assumption)]]; dsimp only; walk_at "edE"
theorem hret_ed {G : Value → List (Addr × Obj) → Heap → Nat → Prop} {c : CS} {ix : Int} {ixT : Tok} {S : St} {beg : Int} {row : List Int}
    (k : ∀ l begT vs nn colT us nu ps np h tk, c.Off l → IntsAre vs row → IntsAre us S.shown → IntsAre ps S.printed → G (.ref l) (conL c ix ixT S colT beg begT us nu ps np ++ [(l, listOf vs.toArray nn)]) h tk) :
    ∀ r post h tk, (∃ l begT p1 vs nn, r = .ref l ∧ post = p1 ++ [(l, listOf vs.toArray nn)] ∧ c.Off l ∧ IntsAre vs row ∧ ConPost c ix ixT S beg begT p1) → G r post h tk := by
  rintro r post h tk ⟨l, begT, p1, vs, nn, rfl, rfl, of, iv, colT, us, nu, ps, np, rfl, h1, h2⟩; exact k l begT vs nn colT us nu ps np h tk of iv h1 h2
local macro_rules | `(tactic| walk_at "after") => `(tactic| (refine hret_ed ?_; intro l' begT' vs' nn' colT' us' nu' ps' np' h' tk' of' iv i1' i2' F' N' O'; walk_at "clean"))
local macro_rules | `(tactic| walk_at "told") => `(tactic| refine' edited_tell ?ok ?i1 ?i2 ?i3 ?oo ?bb ?b2 ?hn ?k8 ?k127 ?zz)
theorem is_ready_tell {w : World} {c : CS} {st : St} {ix : Int} {ixT colT : Tok} {beg : Int} {begT : Tok} {us : List Value} {nu : Nat} {ps : List Value} {np : Nat} {kvs : List Value} {ks : List Int} {nk : Nat}
    (hok : c.Ok) (hk : IntsAre kvs ks) (hz : ks.length ≤ 1000) :
    Tell w 42 1 200 [.ref c.x] (conL c ix ixT st colT beg begT us nu ps np ++ [(c.kl, listOf kvs.toArray nk)]) (fun r post => r = .bool (decide (ix < (ks.length : Int))) ∧ post = conL c ix ixT st colT beg begT us nu ps np ++ [(c.kl, listOf kvs.toArray nk)]) := by
  refine tell_of (binds := [(Str.ofString "console", .ref c.x)]) (by k_is) (by k_is) (fun s => BindsTo.of_eq rfl) (locs rfl) rfl rfl rfl (by exact (by decide)) ?_
  have hkl : kvs.toArray.size = ks.length := by rw [List.size_toArray]; exact hk.length
  intro loose mean mg mb dp un gd outer A₀ base g L s B F X N T hdp hun
  dsimp only [conL, List.cons_append, List.nil_append] at N
  k_fold
  walk_at "go"
  exact ⟨_, _, _, _, rfl, by k_asm, by k_asm, rfl, rfl⟩
local macro_rules | `(tactic| walk_at "told") => `(tactic| refine' is_ready_tell ?ok ?hk ?zk)
theorem and127n : ∀ k : Nat, k < 128 → Builtin.bitAnd (k : Int) 127 = (k : Int) := by decide +kernel
theorem and127 {k : Int} (h0 : 0 ≤ k) (h1 : k < 128) : Builtin.bitAnd k 127 = k := by
  have := and127n k.toNat (by omega)
  rwa [Int.toNat_of_nonneg h0] at this
theorem next_key_tell {w : World} {c : CS} {st : St} {ix : Int} {ixT colT : Tok} {beg : Int} {begT : Tok} {us : List Value} {nu : Nat} {ps : List Value} {np : Nat} {kvs : List Value} {ks : List Int} {nk : Nat} {k : Int}
    (hok : c.Ok) (hk : IntsAre kvs ks) (hz : ks.length ≤ 1000) (h0 : 0 ≤ ix) (hlt : ix < (ks.length : Int)) (hkey : ks[ix.toNat]? = some k) (hk0 : 0 ≤ k) (hk1 : k < 128) :
    Tell w 49 2 400 [.ref c.x] (conL c ix ixT st colT beg begT us nu ps np ++ [(c.kl, listOf kvs.toArray nk)]) (fun r post => ∃ t ixT' , r = .int k t ∧ post = conL c (ix + 1) ixT' st colT beg begT us nu ps np ++ [(c.kl, listOf kvs.toArray nk)]) := by
  refine tell_of (binds := [(Str.ofString "console", .ref c.x)]) (by k_is) (by k_is) (fun s => BindsTo.of_eq rfl) (locs rfl) rfl rfl rfl (by exact (by decide)) ?_
  have hkl : kvs.toArray.size = ks.length := by rw [List.size_toArray]; exact hk.length
  intro loose mean mg mb dp un gd outer A₀ base g L s B F X N T hdp hun
  dsimp only [conL, List.cons_append, List.nil_append] at N
  k_fold
  walk_at "go"
  rw [show (ix + 1 - 1).toNat = ix.toNat from by omega, List.getD_eq_getElem?_getD, hkey, Option.getD_some, and127 hk0 hk1]
  exact ⟨_, _, _, _, rfl, by k_asm, by k_asm, _, _, rfl, rfl⟩
theorem hret_nky {G : Value → List (Addr × Obj) → Heap → Nat → Prop} {v : Int} {f : Tok → List (Addr × Obj)} (k : ∀ t u h tk, G (.int v t) (f u) h tk) : ∀ r post h tk, (∃ t u, r = .int v t ∧ post = f u) → G r post h tk := by
  rintro r post h tk ⟨t, u, rfl, rfl⟩; exact k t u h tk
local macro_rules | `(tactic| walk_at "told") => `(tactic| refine' next_key_tell ?ok ?hk ?zk ?bb ?k8 ?hkey ?k127 ?i1)
local macro_rules | `(tactic| walk_at "after") => `(tactic| (refine hret_nky ?_; intro t' u' h' tk' F' N' O'; clear O'; walk_at "clean"))
theorem put1_col {st : St} {o : Int} (h : 0 ≤ st.col) : 0 ≤ (put1 st o).col ∧ (put1 st o).col ≤ st.col + 1 := by
  simp only [put1, colOf]; repeat' split
  all_goals omega
theorem puts_col : ∀ {os : List Int} {st : St}, 0 ≤ st.col → 0 ≤ (puts st os).col ∧ (puts st os).col ≤ st.col + os.length
  | [], st, h => ⟨h, by simp [puts]⟩
  | o :: os, st, h => by
    have h1 := put1_col (o := o) h
    have h2 := puts_col (os := os) h1.1
    rw [puts_cons]
    refine ⟨h2.1, ?_⟩
    rw [List.length_cons]
    omega
theorem showP_col {st : St} {o : Int} (h : 0 ≤ st.col) : 0 ≤ (showP st o).col ∧ (showP st o).col ≤ st.col + 8 := by
  unfold showP
  split
  · have := puts_col (os := List.replicate (8 - st.col % 8).toNat 32) h
    rw [List.length_replicate] at this
    omega
  · have := put1_col (o := o) h
    omega
theorem echoP_col {st : St} {o : Int} (h : 0 ≤ st.col) : 0 ≤ (echoP st o).col ∧ (echoP st o).col ≤ st.col + 8 := by
  unfold echoP
  split
  · have h1 := put1_col (o := 94) h
    have h2 := put1_col (o := o + 64) h1.1
    omega
  · exact showP_col h
theorem echoesP_col : ∀ {os : List Int} {st : St}, 0 ≤ st.col → 0 ≤ (echoesP st os).col ∧ (echoesP st os).col ≤ st.col + 8 * os.length
  | [], st, h => ⟨h, by simp [echoesP]⟩
  | o :: os, st, h => by
    have h1 := echoP_col (o := o) h
    have h2 := echoesP_col (os := os) h1.1
    show 0 ≤ (echoesP (echoP st o) os).col ∧ (echoesP (echoP st o) os).col ≤ _
    rw [List.length_cons]
    omega
theorem showP_32 (st : St) : showP st 32 = put1 st 32 := if_neg (by decide)
theorem shows_32 : ∀ {n : Nat} {st : St}, showsP st (List.replicate n 32) = puts st (List.replicate n 32)
  | 0, _ => rfl
  | n + 1, st => by
    show showsP (showP st 32) (List.replicate n 32) = puts (put1 st 32) (List.replicate n 32)
    rw [showP_32, shows_32]
theorem retypeP_col {st : St} {beg : Int} {ns : List Int} (hb : 0 ≤ beg) : 0 ≤ (retypeP st beg ns).col ∧ (retypeP st beg ns).col ≤ beg + 8 * ns.length := by
  unfold retypeP
  rw [shows_32]
  have h0 : (put1 (put1 (put1 st 35) 13) 10).col = 0 := by simp [put1, colOf]
  have h1 := puts_col (os := List.replicate beg.toNat 32) (Int.le_of_eq h0.symm)
  have h2 := echoesP_col (os := ns) h1.1
  rw [List.length_replicate, h0] at h1
  omega
theorem backsP_col : ∀ {n : Nat} {st : St}, (n : Int) ≤ st.col → (backsP st n).col = st.col - n
  | 0, st, _ => by simp [backsP]
  | n + 1, st, h => by
    have h1 := back_col (st := st) (by omega)
    show (backsP (put1 (put1 (put1 st 8) 32) 8) n).col = _
    rw [backsP_col (by rw [h1]; omega), h1]
    omega
theorem Small.backsP {k : Nat} : ∀ {n : Nat} {st : St}, Small st (k + 3 * n) → Small (backsP st n) k
  | 0, _, h => h
  | n + 1, st, h => Small.backsP (n := n) (Small.put1 (Small.put1 (Small.put1 (Small.mono h (by omega)))))
theorem Small.retypeP {k : Nat} {st : St} {beg : Int} {ns : List Int} (h : Small st (k + 3 + 8 * beg.toNat + 8 * ns.length)) : Small (retypeP st beg ns) k :=
  Small.echoesP (Small.showsP (Small.put1 (Small.put1 (Small.put1 (Small.mono h (by rw [List.length_replicate]; omega))))))
theorem Small.editP {k : Nat} {st : St} {beg : Int} {ns : List Int} {key : Int} (h : Small st (k + 20 + 8 * beg.toNat + 8 * ns.length + 3 * (st.col - beg).toNat)) : Small (editP st beg ns key).1 k := by
  unfold Mine.editP
  repeat' split
  · exact Small.retypeP (Small.mono h (by rw [List.length_nil]; omega))
  · exact Small.backsP (Small.mono h (by omega))
  · exact Small.retypeP (Small.mono h (by omega))
  · exact Small.put1 (Small.put1 (Small.mono h (by omega)))
  · exact Small.mono h (by omega)
  · exact Small.echoP (Small.mono h (by omega))
/-- the bounds between the keys -/
theorem editP_bounds {B : Int} {st : St} {beg : Int} {ns : List Int} {key : Int} (hb : 0 ≤ beg) (hB : beg ≤ B) (hc : 0 ≤ st.col) (hC : st.col ≤ B + 8 * ns.length) :
    0 ≤ (editP st beg ns key).2.1 ∧ (editP st beg ns key).2.1 ≤ B ∧ 0 ≤ (editP st beg ns key).1.col ∧ (editP st beg ns key).1.col ≤ B + 8 * (editP st beg ns key).2.2.length ∧ (editP st beg ns key).2.2.length ≤ ns.length + 1 := by
  unfold editP
  repeat' split
  · have := retypeP_col (st := st) (ns := []) hb
    rw [List.length_nil] at this
    dsimp only; rw [List.length_nil]; omega
  · dsimp only
    have h1 := backsP_col (n := (st.col - beg).toNat) (st := st) (by omega)
    rw [List.length_nil, h1]; omega
  · have := retypeP_col (st := st) (ns := ns) hb
    dsimp only; omega
  · dsimp only
    have h0 : (put1 (put1 st 13) 10).col = 0 := by simp [put1, colOf]
    rw [h0]; omega
  · dsimp only; omega
  · have := echoP_col (o := key) hc
    dsimp only; rw [List.length_append, List.length_cons, List.length_nil]; omega
def runP (st : St) (beg : Int) (row : List Int) (keys : List Int) : St × Int × List Int := keys.foldl (fun q key => editP q.1 q.2.1 q.2.2 key) (st, beg, row)
theorem runP_snoc (st : St) (beg : Int) (row : List Int) (keys : List Int) (key : Int) :
    runP st beg row (keys ++ [key]) = editP (runP st beg row keys).1 (runP st beg row keys).2.1 (runP st beg row keys).2.2 key := by
  simp [runP]
/-- bounds of a run from a row's start -/
theorem runP_bounds {B : Int} {st : St} (hc : 0 ≤ st.col) (hC : st.col ≤ B) (hB : B ≤ 300) {R : Nat} : ∀ (keys : List Int), keys.length ≤ 10 → Small st (R + 4000 * keys.length) →
    0 ≤ (runP st st.col [] keys).2.1 ∧ (runP st st.col [] keys).2.1 ≤ B ∧ 0 ≤ (runP st st.col [] keys).1.col ∧ (runP st st.col [] keys).1.col ≤ B + 8 * (runP st st.col [] keys).2.2.length ∧ (runP st st.col [] keys).2.2.length ≤ keys.length ∧ Small (runP st st.col [] keys).1 R := by
  intro keys
  induction h : keys.length generalizing keys R with
  | zero =>
    intro _ hs
    rw [List.length_eq_zero_iff.mp h]
    simp only [runP, List.foldl_nil, List.length_nil]
    exact ⟨hc, hC, hc, by omega, by omega, hs⟩
  | succ n ih =>
    intro hn hs
    have hne : keys ≠ [] := by intro e; rw [e] at h; cases h
    have e := List.dropLast_concat_getLast hne
    have hl : keys.dropLast.length = n := by rw [List.length_dropLast, h]; rfl
    have I := ih (R := R + 4000) keys.dropLast hl (by omega) (Small.mono hs (by omega))
    rw [← e, runP_snoc]
    obtain ⟨a, b, c, d, f, g⟩ := I
    have E := editP_bounds (key := keys.getLast hne) a b c d
    refine ⟨E.1, E.2.1, E.2.2.1, E.2.2.2.1, ?_, ?_⟩
    · have := E.2.2.2.2; omega
    · exact Small.editP (Small.mono g (by omega))
theorem editP_16 {st : St} {e : Int} {ns : List Int} {key : Int} (h : key = 16) : editP st e ns key = ({ st with on := !st.on }, e, ns) := by subst h; rfl
theorem editP_5 {st : St} {e : Int} {ns : List Int} {key : Int} (h : key = 5) : editP st e ns key = (puts st [13, 10], 0, ns) := by subst h; rfl
theorem editP_24 {st : St} {e : Int} {ns : List Int} {key : Int} (h : key = 24) : editP st e ns key = (backsP st (st.col - e).toNat, e, []) := by subst h; rfl
theorem editP_18 {st : St} {e : Int} {ns : List Int} {key : Int} (h : key = 18) : editP st e ns key = (retypeP st e ns, e, ns) := by subst h; rfl
theorem editP_21 {st : St} {e : Int} {ns : List Int} {key : Int} (h : key = 21) : editP st e ns key = (retypeP st e [], e, []) := by subst h; rfl
theorem editP_else {st : St} {e : Int} {ns : List Int} {key : Int} (h : key ≠ 21 ∧ key ≠ 24 ∧ key ≠ 18 ∧ key ≠ 5 ∧ key ≠ 16) : editP st e ns key = (echoP st key, e, ns ++ [key]) := by
  obtain ⟨a, b, c, d, f⟩ := h
  unfold editP; rw [if_neg a, if_neg b, if_neg c, if_neg d, if_neg f]
def Okey (k : Int) : Prop := 0 ≤ k ∧ k < 128 ∧ k ≠ 8 ∧ k ≠ 127 ∧ k ≠ 13 ∧ k ≠ 10 ∧ k ≠ 26 ∧ k ≠ 3
theorem conPost_eq {c : CS} {ix ix' : Int} {ixT : Tok} {st st' : St} {beg beg' : Int} {begT : Tok} {p : List (Addr × Obj)} (h : ConPost c ix ixT st beg begT p) (e1 : ix = ix') (e2 : st = st') (e3 : beg = beg') : ConPost c ix' ixT st' beg' begT p := by
  subst e1 e2 e3; exact h
theorem read_row_tell {w : World} {c : CS} {st : St} {ix : Int} {ixT colT : Tok} {beg : Int} {begT : Tok} {us : List Value} {nu : Nat} {ps : List Value} {np : Nat} {kvs : List Value} {ks : List Int} {nk : Nat} {keys : List Int} {tm : Tok}
    (hok : c.Ok) (h1 : IntsAre us st.shown) (h2 : IntsAre ps st.printed) (hk : IntsAre kvs ks) (hks : ks.length ≤ 1000) (h0 : 0 ≤ ix) (hkeys : ∀ k ∈ keys, Okey k) (hl : keys.length ≤ 10)
    (hat : ∀ j, j < keys.length → ks[ix.toNat + j]? = keys[j]?) (hend : ks[ix.toNat + keys.length]? = some 13) (hc : 0 ≤ st.col) (hC : st.col ≤ 300) (hz : Small st 50000) :
    Tell w 133 7 1600 [.ref c.x, .int 20 tm] (conL c ix ixT st colT beg begT us nu ps np ++ [(c.kl, listOf kvs.toArray nk)])
      (fun r post => ∃ l ixT' begT' p1 vs' nn', r = .ref l ∧ post = p1 ++ [(c.kl, listOf kvs.toArray nk), (l, listOf vs'.toArray nn')] ∧ c.Off l ∧ @Ne Nat l c.kl ∧ IntsAre vs' (runP st st.col [] keys).2.2 ∧
        ConPost c (ix + keys.length + 1) ixT' (put1 (runP st st.col [] keys).1 13) (runP st st.col [] keys).2.1 begT' p1) := by
  refine tell_of (binds := [(Str.ofString "console", .ref c.x), (Str.ofString "most", .int 20 tm)]) (by k_is) (by k_is) (fun s => BindsTo.of_eq rfl) (locs rfl) rfl rfl rfl (by exact (by decide)) ?_
  intro loose mean mg mb dp un gd outer A₀ base g L s B F X N T hdp hun
  dsimp only [conL, List.cons_append, List.nil_append] at N
  k_fold
  walk_at "go"
  (rename Fr _ _ _ _ => F); (rename News _ _ _ _ => N)
  refine while_r (Str.ofString "octets") (Str.ofString "key") (by decide) (fun n l led => ∃ j begT' ixT' p1 vs' nn', n = keys.length + 1 - j ∧ j ≤ keys.length ∧ led = p1 ++ [(c.kl, listOf kvs.toArray nk), (l, listOf vs'.toArray nn')] ∧ c.Off l ∧ @Ne Nat l c.kl ∧
      IntsAre vs' (runP st st.col [] (keys.take j)).2.2 ∧ ConPost c (ix + j) ixT' (runP st st.col [] (keys.take j)).1 (runP st st.col [] (keys.take j)).2.1 begT' p1)
    (keys.length + 1) _ F (led := _) ?gN rfl ⟨0, colT, ixT, conL c ix ixT st colT st.col colT us nu ps np, [], 0, by omega, by omega, rfl, ?go, ?gk, .nil, ⟨colT, us, nu, ps, np, ?ge, h1, h2⟩⟩ ?turn
  case ge => rw [Int.natCast_zero, Int.add_zero]; rfl
  case gN => exact kst_newsOf N (by walk_at "sub")
  case go => walk_at "offc"
  case gk => walk_at "ne1"
  case turn =>
    clear F N
    rintro n l u led h tk F N ⟨j, begT', ixT', p1, vs', nn', hn, hj, rfl, ho, hlk, iv, colT', us', nu', ps', np', rfl, i1, i2⟩
    obtain ⟨o1, o2, o3, o4⟩ := id ho
    have hB := runP_bounds (st := st) (B := 300) hc hC (by omega) (R := 9000) (keys.take j) (by rw [List.length_take]; omega) (Small.mono hz (by rw [List.length_take]; omega))
    have htl : (keys.take j).length = j := by rw [List.length_take]; omega
    rw [htl] at hB
    obtain ⟨b1, b2, b3, b4, b5, b6⟩ := hB
    have hvl : vs'.toArray.size = (runP st st.col [] (keys.take j)).2.2.length := by rw [List.size_toArray]; exact iv.length
    dsimp only [conL, List.cons_append, List.nil_append] at N
    have hto : (ix + (j : Int)).toNat = ix.toNat + j := by omega
    by_cases hjl : j < keys.length
    · have hkk : ks[(ix + (j : Int)).toNat]? = some keys[j] := by rw [hto, hat j hjl]; simp [hjl]
      have hlt : ix + (j : Int) < (ks.length : Int) := by
        have := (List.getElem?_eq_some_iff.mp hkk).1
        omega
      obtain ⟨y1, y2, y3, y4, y5, y6, y7, y8⟩ := hkeys keys[j] (List.getElem_mem hjl)
      have hts : keys.take (j + 1) = keys.take j ++ [keys[j]] := take_snoc (by simp [hjl])
      generalize keys[j] = key at *
      with_reducible show wpAny _ _ _ _ _ _
      k_fold
      walk_at "go"
      all_goals first
        | exact absurd (by assumption : ([13, 10].any fun x => x == key) = true) (by simp; omega)
        | exact absurd (by assumption) y7
        | exact absurd (by assumption) y8
        | skip
      · (rename OwnOff _ _ => hO); (rename IntsAre _ (editP _ _ _ _).2.2 => jv)
        have hO2 := hO _ (.tail _ (.head _)) _ (List.mem_map_of_mem (List.mem_append_right _ (.head _)))
        dsimp only [WEndR]
        refine' ⟨_, _, _, keys.length + 1 - (j + 1), _, _, rfl, ?kF, ?mx, ?hm, ?kN, ?lt, j + 1, _, _, _, _, _, rfl, ?le, rfl, ?of, ?nk, ?iv, conPost_eq ⟨?v1, ?v2, ?v3, ?v4, ?v5, rfl, ?c1, ?c2⟩ ?q1 ?q2 ?q3⟩
        case kF => k_asm
        case mx => exact rfl
        case c1 => assumption
        case c2 => assumption
        case iv => rw [hts, runP_snoc]; exact jv
        case kN => walk_at "newsOf"
        case hm => intro z h1 h2; simp only [if_neg h1, if_neg h2]
        case lt => exact meas_lt hn hjl
        case le => omega
        case of => assumption
        case nk => exact fun e => hO2 e.symm
        case q1 => omega
        case q2 => rw [hts, runP_snoc]
        case q3 => rw [hts, runP_snoc]
    · have hje : j = keys.length := by omega
      subst hje
      have hkk : ks[(ix + (keys.length : Int)).toNat]? = some 13 := by rw [hto]; exact hend
      have hlt : ix + (keys.length : Int) < (ks.length : Int) := by
        have := (List.getElem?_eq_some_iff.mp hkk).1
        omega
      rw [List.take_length] at *
      have w0 : (0 : Int) ≤ 13 := by decide
      have w1 : (13 : Int) < 128 := by decide
      with_reducible show wpAny _ _ _ _ _ _
      k_fold
      walk_at "go"
      dsimp only [WEndR]
      with_reducible show wpAny _ _ _ _ _ _
      walk_at "go"
      refine' ⟨_, _, _, _, rfl, ?xF, ?xN, _, _, _, _, _, _, rfl, rfl, ho, hlk, ?xv, ⟨?w1, ?w2, ?w3, ?w4, ?w5, rfl, ?d1, ?d2⟩⟩
      case xF => k_asm
      case d1 => assumption
      case d2 => assumption
      case xv => exact iv
      case xN => walk_at "newsOf"
def Keyed (ks : List Int) (ix : Int) (keys : List Int) : Prop :=
  (∀ j, j < keys.length → ks[ix.toNat + j]? = keys[j]?) ∧ ks[ix.toNat + keys.length]? = some 13 ∧ 0 ≤ ix ∧ keys.length ≤ 10 ∧ ∀ k ∈ keys, Okey k
theorem read_row_tell' {w : World} {c : CS} {st : St} {ix : Int} {ixT colT : Tok} {beg : Int} {begT : Tok} {us : List Value} {nu : Nat} {ps : List Value} {np : Nat} {kvs : List Value} {ks : List Int} {nk : Nat} {keys : List Int} {tm : Tok}
    (hok : c.Ok) (h1 : IntsAre us st.shown) (h2 : IntsAre ps st.printed) (hk : IntsAre kvs ks) (hks : ks.length ≤ 1000) (hK : Keyed ks ix keys) (hc : 0 ≤ st.col) (hC : st.col ≤ 300) (hz : Small st 50000) :
    Tell w 133 7 1600 [.ref c.x, .int 20 tm] (conL c ix ixT st colT beg begT us nu ps np ++ [(c.kl, listOf kvs.toArray nk)])
      (fun r post => ∃ l ixT' begT' p1 vs' nn', r = .ref l ∧ post = p1 ++ [(c.kl, listOf kvs.toArray nk), (l, listOf vs'.toArray nn')] ∧ c.Off l ∧ @Ne Nat l c.kl ∧ IntsAre vs' (runP st st.col [] keys).2.2 ∧
        ConPost c (ix + keys.length + 1) ixT' (put1 (runP st st.col [] keys).1 13) (runP st st.col [] keys).2.1 begT' p1) :=
  read_row_tell (w := w) (ixT := ixT) (colT := colT) (beg := beg) (begT := begT) (nu := nu) (np := np) (nk := nk) (tm := tm) hok h1 h2 hk hks hK.2.2.1 hK.2.2.2.2 hK.2.2.2.1 hK.1 hK.2.1 hc hC hz
theorem hret_row {G : Value → List (Addr × Obj) → Heap → Nat → Prop} {c : CS} {ix : Int} {S : St} {row : List Int} {q : Addr × Obj}
    (k : ∀ l ixT beg begT vs nn colT us nu ps np h tk, c.Off l → @Ne Nat l c.kl → IntsAre vs row → IntsAre us S.shown → IntsAre ps S.printed → G (.ref l) (conL c ix ixT S colT beg begT us nu ps np ++ [q, (l, listOf vs.toArray nn)]) h tk) :
    ∀ r post h tk, (∃ l ixT beg begT p1 vs nn, r = .ref l ∧ post = p1 ++ [q, (l, listOf vs.toArray nn)] ∧ c.Off l ∧ @Ne Nat l c.kl ∧ IntsAre vs row ∧ ConPost c ix ixT S beg begT p1) → G r post h tk := by
  rintro r post h tk ⟨l, ixT, beg, begT, p1, vs, nn, rfl, rfl, of, nk, iv, colT, us, nu, ps, np, rfl, h1, h2⟩; exact k l ixT beg begT vs nn colT us nu ps np h tk of nk iv h1 h2
theorem law_next_tell {w : World} {r l : Nat} {turn many : Int} {tt tm : Tok} {vs : List Value} {ns : List Int} {nr nl : Nat}
    (hrl : r ≠ l) (hv : IntsAre vs ns) (hn : ns.length ≤ 1000) (h0 : 0 ≤ turn) (h1 : turn ≤ 10000) (hm : 0 < many) (hm2 : many ≤ 1000) :
    Tell w 142 1 400 [.ref r, .int many tm] [(r, listOf #[.ref l, .int turn tt] nr), (l, listOf vs.toArray nl)]
      (fun q post => ∃ v t tt' nr', q = .int v t ∧ 0 ≤ v ∧ v < many ∧ post = [(r, listOf #[.ref l, .int (turn + 1) tt'] nr'), (l, listOf vs.toArray nl)]) := by
  refine tell_of (binds := [(Str.ofString "rope", .ref r), (Str.ofString "many", .int many tm)]) (by k_is) (by k_is) (fun s => BindsTo.of_eq rfl) (locs rfl) rfl rfl rfl (by exact (by decide)) ?_
  have hkl : vs.toArray.size = ns.length := by rw [List.size_toArray]; exact hv.length
  intro loose mean mg mb dp un gd outer A₀ base g L s B F X N T hdp hun
  k_fold
  walk_at "go"
  all_goals exact ⟨_, _, _, _, rfl, by k_asm, by k_asm, _, _, _, _, rfl, Int.fmod_nonneg_of_pos _ hm, Int.fmod_lt_of_pos _ hm, rfl⟩
theorem hret_lnx {G : Value → List (Addr × Obj) → Heap → Nat → Prop} {many : Int} {f : Tok → Nat → List (Addr × Obj)} (k : ∀ v t tt nr h tk, 0 ≤ v → v < many → G (.int v t) (f tt nr) h tk) :
    ∀ r post h tk, (∃ v t tt nr, r = .int v t ∧ 0 ≤ v ∧ v < many ∧ post = f tt nr) → G r post h tk := by
  rintro r post h tk ⟨v, t, tt, nr, rfl, h1, h2, rfl⟩; exact k v t tt nr h tk h1 h2
local macro_rules | `(tactic| walk_at "told") => `(tactic| refine' law_next_tell ?ne ?iv ?hn ?tb ?t2 ?hm ?hm2)
local macro_rules | `(tactic| walk_at "after") => `(tactic| (refine hret_lnx ?_; intro v' t' tt' nr' h' tk' v0' v1' F' N' O'; clear O'; walk_at "clean"))
/-- the twin's addresses -/
structure TS where
  (tw sl pl : Nat)
def TS.Ok (t : TS) : Prop := t.tw < t.sl ∧ t.sl < t.pl ∧ (t.tw == sysModules) = false
def TwD (w : World) (t : TS) (st : St) (colT : Tok) (o : Obj) : Prop :=
  Obj.IsDictOf (PySem.strKind PySem.Challenge.rw_rh0267_01.row.prog w) o (strPairs [(Value.str (Str.ofString "shown") 0, Value.ref t.sl), (Value.str (Str.ofString "printed") 0, Value.ref t.pl), (Value.str (Str.ofString "is_on") 0, Value.bool st.on), (Value.str (Str.ofString "column") 0, Value.int st.col colT)])
abbrev twL (t : TS) (o : Obj) (us : List Value) (nu : Nat) (ps : List Value) (np : Nat) : List (Addr × Obj) := [(t.tw, o), (t.sl, listOf us.toArray nu), (t.pl, listOf ps.toArray np)]
inductive TwPost (w : World) (t : TS) (st : St) (post : List (Addr × Obj)) : Prop
  | mk (o : Obj) (colT : Tok) (us : List Value) (nu : Nat) (ps : List Value) (np : Nat) (e : post = twL t o us nu ps np) (hd : TwD w t st colT o) (h1 : IntsAre us st.shown) (h2 : IntsAre ps st.printed) : TwPost w t st post
section
variable {G : Value → List (Addr × Obj) → Heap → Nat → Prop} {w : World} {t : TS} {st : St} {q : List (Addr × Obj)}
theorem hret_twp (k : ∀ o colT us nu ps np h tk, Obj.IsDictOf (PySem.strKind PySem.Challenge.rw_rh0267_01.row.prog w) o (strPairs [(Value.str (Str.ofString "shown") 0, Value.ref t.sl), (Value.str (Str.ofString "printed") 0, Value.ref t.pl), (Value.str (Str.ofString "is_on") 0, Value.bool st.on), (Value.str (Str.ofString "column") 0, Value.int st.col colT)]) →
      IntsAre us st.shown → IntsAre ps st.printed → G .none (twL t o us nu ps np ++ q) h tk) :
    ∀ r post h tk, (r = .none ∧ ∃ p1, post = p1 ++ q ∧ TwPost w t st p1) → G r post h tk := by
  rintro r post h tk ⟨rfl, p1, rfl, o, colT, us, nu, ps, np, rfl, hd, h1, h2⟩; exact k o colT us nu ps np h tk hd h1 h2
theorem hret_tw (k : ∀ o colT us nu ps np h tk, Obj.IsDictOf (PySem.strKind PySem.Challenge.rw_rh0267_01.row.prog w) o (strPairs [(Value.str (Str.ofString "shown") 0, Value.ref t.sl), (Value.str (Str.ofString "printed") 0, Value.ref t.pl), (Value.str (Str.ofString "is_on") 0, Value.bool st.on), (Value.str (Str.ofString "column") 0, Value.int st.col colT)]) →
      IntsAre us st.shown → IntsAre ps st.printed → G .none (twL t o us nu ps np) h tk) :
    ∀ r post h tk, (r = .none ∧ TwPost w t st post) → G r post h tk := by
  rintro r post h tk ⟨rfl, o, colT, us, nu, ps, np, rfl, hd, h1, h2⟩; exact k o colT us nu ps np h tk hd h1 h2
theorem jtw {G : List (Addr × Obj) → Prop} (k : ∀ o colT us nu ps np, Obj.IsDictOf (PySem.strKind PySem.Challenge.rw_rh0267_01.row.prog w) o (strPairs [(Value.str (Str.ofString "shown") 0, Value.ref t.sl), (Value.str (Str.ofString "printed") 0, Value.ref t.pl), (Value.str (Str.ofString "is_on") 0, Value.bool st.on), (Value.str (Str.ofString "column") 0, Value.int st.col colT)]) →
      IntsAre us st.shown → IntsAre ps st.printed → G (twL t o us nu ps np ++ q)) : ∀ nx, (∃ p1, nx = p1 ++ q ∧ TwPost w t st p1) → G nx := by
  rintro nx ⟨p1, rfl, o, colT, us, nu, ps, np, rfl, hd, h1, h2⟩; exact k o colT us nu ps np hd h1 h2
end
def TS.Off (t : TS) (a : Nat) : Prop := a ≠ t.tw ∧ a ≠ t.sl ∧ a ≠ t.pl
theorem puts_snoc (st : St) (os : List Int) (o : Int) : puts st (os ++ [o]) = put1 (puts st os) o := by simp [puts]
theorem twPost_of {w : World} {t : TS} {st : St} {col : Int} {colT : Tok} {on : Bool} {o : Obj} {ua pa : Array Value} {nu np : Nat}
    (hd : Obj.IsDictOf (PySem.strKind PySem.Challenge.rw_rh0267_01.row.prog w) o [(Str.ofString "shown", Value.ref t.sl), (Str.ofString "printed", Value.ref t.pl), (Str.ofString "is_on", Value.bool on), (Str.ofString "column", Value.int col colT)])
    (hc : col = st.col) (ho : on = st.on) (h1 : IntsAre ua.toList st.shown) (h2 : IntsAre pa.toList st.printed) : TwPost w t st [(t.tw, o), (t.sl, listOf ua nu), (t.pl, listOf pa np)] := by
  subst hc ho
  exact ⟨o, colT, ua.toList, nu, pa.toList, np, rfl, hd, h1, h2⟩
theorem flat_all {p : Int → Prop} {n : Nat} {l : List Int} (h : ∀ k ∈ l, p k) : ∀ k ∈ (List.replicate n l).flatten, p k := by
  intro k hk
  obtain ⟨l', h1, h2⟩ := List.mem_flatten.mp hk
  rw [List.eq_of_mem_replicate h1] at h2
  exact h k h2
theorem law_put_tell {w : World} {t : TS} {st : St} {colT : Tok} {o : Obj} {us : List Value} {nu : Nat} {ps : List Value} {np : Nat} {ol : Nat} {vs : List Value} {ns : List Int} {nn : Nat}
    (hok : t.Ok) (hd : TwD w t st colT o) (h1 : IntsAre us st.shown) (h2 : IntsAre ps st.printed) (hv : IntsAre vs ns) (ho : t.Off ol) (h127 : ∀ k ∈ ns, k ≠ 127) (hz : Small st (2 + ns.length)) :
    Tell w 149 1 600 [.ref t.tw, .ref ol] (twL t o us nu ps np ++ [(ol, listOf vs.toArray nn)]) (fun r post => r = .none ∧ ∃ p1, post = p1 ++ [(ol, listOf vs.toArray nn)] ∧ TwPost w t (puts st ns) p1) := by
  refine tell_of (binds := [(Str.ofString "twin", .ref t.tw), (Str.ofString "octets", .ref ol)]) (by k_is) (by k_is) (fun s => BindsTo.of_eq rfl) (locs rfl) rfl rfl rfl (by exact (by decide)) ?_
  obtain ⟨e1, e2, e3⟩ := id hok
  obtain ⟨o1, o2, o3⟩ := id ho
  intro loose mean mg mb dp un gd outer A₀ base g L s B F X N T hdp hun
  dsimp only [twL, List.cons_append, List.nil_append] at N
  k_fold
  walk_at "go"
  (rename Fr _ _ _ _ => F); (rename News _ _ _ _ => N); (rename IntsAre vs ns => hv); (rename IntsAre us _ => h1); (rename IntsAre ps _ => h2)
  refine for_ownM (fun i nx => ∃ p1, nx = p1 ++ [(ol, listOf vs.toArray nn)] ∧ TwPost w t (puts st (ns.take i)) p1) rfl (by k_mem) hv F N ⟨twL t o us nu ps np, rfl, ⟨_, _, _, _, _, _, rfl, hd, h1, h2⟩⟩ (by rintro i nx ⟨p1, rfl, _⟩; exact List.mem_append_right _ (.head _)) ?_ ?_
  · clear N F hd
    intro i n tn nx h tk it ito hn
    revert nx
    refine jtw ?_
    intro o' colT' us' nu' ps' np' hd i1 i2 hne F N
    have hzi : Small (puts st (ns.take i)) 2 := Small.puts (Small.mono hz (by have := (List.length_take_le' i ns); omega))
    have n127 : n ≠ 127 := h127 n (List.mem_of_getElem? hn)
    have z1 : us'.length ≤ 999998 := by have := i1.length; have := hzi.1; omega
    have z2 : ps'.length ≤ 999998 := by have := i2.length; have := hzi.2; omega
    dsimp only [twL, List.cons_append, List.nil_append] at hne N
    with_reducible show wpAny _ _ _ _ _ _
    k_fold
    walk_at "go"
    all_goals (
      dsimp only [TEnd]
      rw [take_snoc hn, puts_snoc]
      refine' ⟨_, _, _, _, rfl, ?kF, ?kN, ?ne, fun y hy => if_neg hy, _, rfl, twPost_of ?hd ?hc rfl ?q1 ?q2⟩
      case kF => k_asm
      case hd => assumption
      case kN => walk_at "newsOf"
      case hc => (simp only [put1, colOf]; (repeat' split) <;> first | rfl | omega)
      case q1 => exact ints_push i1 _ _
      case q2 => first
        | (rw [show (put1 (puts st (ns.take i)) n).printed = (puts st (ns.take i)).printed ++ [n] from if_pos (by assumption)]; exact ints_push i2 _ _)
        | (rw [show (put1 (puts st (ns.take i)) n).printed = (puts st (ns.take i)).printed from if_neg (by simpa using (by assumption : (puts st (ns.take i)).on = false))]; exact i2)
      case ne => walk_at "nes")
  · intro u nx h tk
    revert nx
    refine jtw ?_
    intro o' colT' us' nu' ps' np' hd' i1 i2 F N
    rw [List.take_length] at i1 i2 hd'
    with_reducible show wpAny _ _ _ _ _ _
    walk_at "go"
    exact ⟨_, _, _, _, rfl, by k_asm, by k_asm, rfl, _, rfl, ⟨_, _, _, _, _, _, rfl, hd', i1, i2⟩⟩
local macro_rules | `(tactic| walk_at "offt") => `(tactic| (dsimp only [TS.Off]; walk_at "neAll"))
local macro_rules | `(tactic| walk_at "offc") => `(tactic| ((first | dsimp only [CS.Off] | dsimp only [TS.Off] | skip); walk_at "neAll"))
local macro_rules | `(tactic| walk_at "flat") => `(tactic| try dsimp only [conL, twL, List.cons_append, List.nil_append, List.map_cons, List.map_nil])
local macro_rules | `(tactic| walk_at "twD") => `(tactic| first | assumption | (unfold TwD; assumption))
local macro_rules | `(tactic| walk_at "clean") => `(tactic| ((rename News _ _ _ _ => N9); (try dsimp only [conL, twL, List.cons_append, List.nil_append] at N9); (try dsimp only); (try k_sweep)))
local macro_rules | `(tactic| walk_at "no127") => `(tactic| first
  | assumption
  | exact List.forall_mem_nil _
  | (refine' List.forall_mem_append.mpr ⟨?fa, ?fb⟩; (case fa => walk_at "no127"); (case fb => walk_at "no127"))
  | (refine flat_all ?_; walk_at "no127")
  | (simp only [List.forall_mem_cons, List.not_mem_nil, false_implies, implies_true, and_true]; omega)
  | omega)
local macro_rules | `(tactic| walk_at "told") => `(tactic| refine' law_put_tell ?ok ?hd ?i1 ?i2 ?i3 ?oo ?h7 ?zz)
local macro_rules | `(tactic| walk_at "after") => `(tactic| (refine hret_twp ?_; intro o' colT' us' nu' ps' np' h' tk' hd' i1' i2' F' N' O'; clear O'; walk_at "clean"))
def keyP (st : St) (key : Int) : St := if key = 9 then puts st (List.replicate (8 - st.col % 8).toNat 32) else if key < 32 then puts st [94, key + 64] else puts st [key]
theorem keyP_eq {st : St} {key : Int} (h8 : key ≠ 8) (h10 : key ≠ 10) (h13 : key ≠ 13) : keyP st key = echoP st key := by
  unfold keyP echoP showP
  by_cases h9 : key = 9
  · subst h9; rfl
  · rw [if_neg h9]
    by_cases hl : key < 32
    · rw [if_pos hl, if_pos]
      · rfl
      · simp [isCtl, hl]; omega
    · rw [if_neg hl, if_neg, if_neg h9]
      · rfl
      · simp [isCtl, hl]
local macro_rules | `(tactic| walk_at "twX") => `(tactic| (
  refine' ⟨_, _, _, _, rfl, ?kF, ?kN, rfl, ⟨?v0, ?v1, ?v2, ?v3, ?v4, ?v5, rfl, ?hd, ?c1, ?c2⟩⟩;
  (case kF => k_asm); (case hd => walk_at "twD"); (case c1 => assumption); (case c2 => assumption); (case kN => walk_at "newsOf")))
theorem law_key_tell {w : World} {t : TS} {st : St} {colT : Tok} {o : Obj} {us : List Value} {nu : Nat} {ps : List Value} {np : Nat} {key : Int} {kt : Tok}
    (hok : t.Ok) (hd : TwD w t st colT o) (h1 : IntsAre us st.shown) (h2 : IntsAre ps st.printed) (h127 : key ≠ 127) (hz : Small st 12) :
    Tell w 156 2 900 [.ref t.tw, .int key kt] (twL t o us nu ps np) (fun r post => r = .none ∧ TwPost w t (keyP st key) post) := by
  refine tell_of (binds := [(Str.ofString "twin", .ref t.tw), (Str.ofString "key", .int key kt)]) (by k_is) (by k_is) (fun s => BindsTo.of_eq rfl) (locs rfl) rfl rfl rfl (by exact (by decide)) ?_
  obtain ⟨e1, e2, e3⟩ := id hok
  intro loose mean mg mb dp un gd outer A₀ base g L s B F X N T hdp hun
  dsimp only [twL] at N
  unfold TwD at hd
  have hf1 := Int.fmod_nonneg_of_pos st.col (show (0 : Int) < 8 by decide)
  have hf2 := Int.fmod_lt_of_pos st.col (show (0 : Int) < 8 by decide)
  with_reducible show wpAny _ _ _ _ _ _
  k_fold
  walk_at "go"
  · rw [show keyP st key = puts st (List.replicate (8 - st.col.fmod 8).toNat [32]).flatten from by rw [keyP, if_pos (by assumption), flat_rep, Int.fmod_eq_emod_of_nonneg _ (by decide)]]
    walk_at "twX"
  · rw [show keyP st key = puts st [94, key + 64] from by rw [keyP, if_neg (by assumption), if_pos (by assumption)]]
    walk_at "twX"
  · rw [show keyP st key = puts st [key] from by rw [keyP, if_neg (by assumption), if_neg (by assumption)]]
    walk_at "twX"
local macro_rules | `(tactic| walk_at "told") => `(tactic| refine' law_key_tell ?ok ?hd ?i1 ?i2 ?h7 ?zz)
local macro_rules | `(tactic| walk_at "after") => `(tactic| (refine hret_tw ?_; intro o' colT' us' nu' ps' np' h' tk' hd' i1' i2' F' N' O'; clear O'; walk_at "clean"))
theorem back_puts : ∀ {n : Nat} {st : St}, puts st (List.replicate n [8, 32, 8]).flatten = backsP st n
  | 0, _ => rfl
  | n + 1, st => by
    rw [List.replicate_succ, List.flatten_cons]
    show puts (put1 (put1 (put1 st 8) 32) 8) (List.replicate n [8, 32, 8]).flatten = _
    rw [back_puts]; rfl
def keysP (st : St) (os : List Int) : St := os.foldl keyP st
theorem keysP_snoc (st : St) (os : List Int) (o : Int) : keysP st (os ++ [o]) = keyP (keysP st os) o := by simp [keysP]
theorem keysP_eq : ∀ {os : List Int} {st : St}, (∀ k ∈ os, k ≠ 8 ∧ k ≠ 10 ∧ k ≠ 13) → keysP st os = echoesP st os
  | [], _, _ => rfl
  | o :: os, st, h => by
    show keysP (keyP st o) os = echoesP (echoP st o) os
    have h1 := h o (.head _)
    rw [keyP_eq h1.1 h1.2.1 h1.2.2]
    exact keysP_eq fun k hk => h k (.tail _ hk)
theorem Small.keyP {st : St} {k : Nat} {o : Int} (h : Small st (k + 8)) : Small (keyP st o) k := by
  unfold Mine.keyP
  repeat' split
  · exact Small.puts (Small.mono h (by rw [List.length_replicate]; omega))
  · exact Small.puts (Small.mono h (by simp))
  · exact Small.puts (Small.mono h (by simp))
theorem Small.keysP {k : Nat} : ∀ {os : List Int} {st : St}, Small st (k + 8 * os.length) → Small (keysP st os) k
  | [], _, h => h
  | o :: os, st, h => Small.keysP (os := os) (Small.keyP (Small.mono h (by rw [List.length_cons]; omega)))
theorem puts_append (st : St) (a b : List Int) : puts st (a ++ b) = puts (puts st a) b := by simp [puts]
theorem retype_puts {st : St} {beg : Int} {ns : List Int} (h : ∀ k ∈ ns, k ≠ 8 ∧ k ≠ 10 ∧ k ≠ 13) : keysP (puts st ([35, 13, 10] ++ (List.replicate beg.toNat [32]).flatten)) ns = retypeP st beg ns := by
  rw [keysP_eq h, puts_append, flat_rep]
  unfold retypeP
  rw [shows_32]
  rfl
theorem editP_mem {st : St} {beg : Int} {ns : List Int} {key x : Int} (h : x ∈ (editP st beg ns key).2.2) : x ∈ ns ∨ x = key := by
  unfold editP at h
  repeat' split at h
  all_goals first
    | exact absurd h (List.not_mem_nil)
    | exact .inl h
    | (rcases List.mem_append.mp h with h | h
       · exact .inl h
       · exact .inr (List.mem_singleton.mp h))
theorem runP_mem {st : St} {beg : Int} : ∀ (keys : List Int) (x : Int), x ∈ (runP st beg [] keys).2.2 → x ∈ keys := by
  intro keys
  induction h : keys.length generalizing keys with
  | zero =>
    intro x hx
    rw [List.length_eq_zero_iff.mp h] at hx
    exact absurd hx (List.not_mem_nil)
  | succ n ih =>
    intro x hx
    have hne : keys ≠ [] := by intro e; rw [e] at h; cases h
    have e := List.dropLast_concat_getLast hne
    rw [← e, runP_snoc] at hx
    rcases editP_mem hx with h1 | h1
    · rw [← e]; exact List.mem_append_left _ (ih keys.dropLast (by rw [List.length_dropLast, h]; rfl) x h1)
    · rw [← e, h1]; exact List.mem_append_right _ (.head _)
local macro_rules | `(tactic| walk_at "t4E") => `(tactic| (
  dsimp only [T4End];
  refine' ⟨_, _, _, _, _, _, _, rfl, ?kF, ?ma, ?mb, ?mz, ?kN, ?ne, _, _, _, rfl, ?of, ?nk, ?iv, rfl, twPost_of ?hd ?hc ?ho ?c1 ?c2⟩;
  (case kF => k_asm); (case ma => exact rfl); (case mb => exact rfl); (case mz => intro z h1 h2 h3 h4; simp only [if_neg h1, if_neg h2, if_neg h3, if_neg h4]);
  (case kN => walk_at "newsOf"); (case ne => walk_at "nes"); (case hd => assumption); (case hc => exact rfl); (case ho => exact rfl); (case c1 => assumption); (case c2 => assumption);
  (case of => walk_at "offt"); (case nk => walk_at "ne1"); (case iv => first | assumption | exact IntsAre.nil)))
local macro_rules | `(tactic| walk_at "twT") => `(tactic| (
  refine' ⟨_, _, _, _, rfl, ?kF, ?kN, ?ne, fun y hy => if_neg hy, _, rfl, twPost_of ?hd ?hc ?ho ?c1 ?c2⟩;
  (case kF => k_asm); (case kN => walk_at "newsOf"); (case ne => walk_at "nes"); (case hd => assumption); (case hc => exact rfl); (case ho => exact rfl); (case c1 => assumption); (case c2 => assumption)))
theorem law_typed_tell {w : World} {t : TS} {st : St} {colT : Tok} {o : Obj} {us : List Value} {nu : Nat} {ps : List Value} {np : Nat} {kl : Nat} {kvs : List Value} {keys : List Int} {nk : Nat}
    (hok : t.Ok) (hd : TwD w t st colT o) (h1 : IntsAre us st.shown) (h2 : IntsAre ps st.printed) (hv : IntsAre kvs keys) (ho : t.Off kl) (hkeys : ∀ k ∈ keys, Okey k) (hl : keys.length ≤ 10) (hc : 0 ≤ st.col) (hC : st.col ≤ 300) (hz : Small st 50000) :
    Tell w 163 3 1200 [.ref t.tw, .ref kl] (twL t o us nu ps np ++ [(kl, listOf kvs.toArray nk)])
      (fun r post => ∃ l p1 vs' nn', r = .ref l ∧ post = p1 ++ [(kl, listOf kvs.toArray nk), (l, listOf vs'.toArray nn')] ∧ t.Off l ∧ @Ne Nat l kl ∧ IntsAre vs' (runP st st.col [] keys).2.2 ∧ TwPost w t (put1 (runP st st.col [] keys).1 13) p1) := by
  refine tell_of (binds := [(Str.ofString "twin", .ref t.tw), (Str.ofString "keys", .ref kl)]) (by k_is) (by k_is) (fun s => BindsTo.of_eq rfl) (locs rfl) rfl rfl rfl (by exact (by decide)) ?_
  obtain ⟨e1, e2, e3⟩ := id hok
  obtain ⟨o1, o2, o3⟩ := id ho
  intro loose mean mg mb dp un gd outer A₀ base g L s B F X N T hdp hun
  dsimp only [twL, List.cons_append, List.nil_append] at N
  unfold TwD at hd
  with_reducible show wpAny _ _ _ _ _ _
  k_fold
  walk_at "go"
  (rename Fr _ _ _ _ => F); (rename News _ _ _ _ => N); (rename IntsAre kvs _ => hv); (rename IntsAre us _ => h1); (rename IntsAre ps _ => h2)
  refine for_own4 (Str.ofString "row") (Str.ofString "begin") (Str.ofString "one") (fun i k e nx => ∃ vs' nn' p1, nx = p1 ++ [(kl, listOf kvs.toArray nk), (k, listOf vs'.toArray nn')] ∧ t.Off k ∧ @Ne Nat k kl ∧ IntsAre vs' (runP st st.col [] (keys.take i)).2.2 ∧ e = (runP st st.col [] (keys.take i)).2.1 ∧ TwPost w t (runP st st.col [] (keys.take i)).1 p1)
    (l := kl) (nn := nk) (led := _) rfl ?gm hv F ?gN rfl rfl ⟨[], 0, twL t o us nu ps np, rfl, ?go, ?gk, .nil, rfl, ⟨o, colT, us, nu, ps, np, rfl, hd, h1, h2⟩⟩ ?gl ?turn ?done
  case gN => exact kst_newsOf N (by walk_at "sub")
  case gm => k_mem
  case go => walk_at "offt"
  case gk => walk_at "ne1"
  case gl => rintro i k e nx ⟨vs', nn', p1, rfl, _⟩; exact List.mem_append_right _ (.head _)
  case turn =>
    clear N F hd
    rintro i key kt k e et u nx h tk it ito hn ⟨vs', nn', p1, rfl, hk, hkk, iv, he, o', colT', us', nu', ps', np', rfl, hd, i1, i2⟩ hne F N
    obtain ⟨q1, q2, q3⟩ := id hk
    have hlt : i < keys.length := (List.getElem?_eq_some_iff.mp hn).1
    have hB := runP_bounds (st := st) (B := 300) hc hC (by omega) (R := 9000) (keys.take i) (by rw [List.length_take]; omega) (Small.mono hz (by rw [List.length_take]; omega))
    have hM := runP_mem (st := st) (beg := st.col) (keys.take i)
    have hts : runP st st.col [] (keys.take (i + 1)) = editP (runP st st.col [] (keys.take i)).1 (runP st st.col [] (keys.take i)).2.1 (runP st st.col [] (keys.take i)).2.2 key := by rw [take_snoc hn, runP_snoc]
    rw [hts]
    have hK := hkeys key (List.mem_of_getElem? hn)
    have hrow : ∀ x ∈ (runP st st.col [] (keys.take i)).2.2, Okey x := fun x hx => hkeys x (List.mem_of_mem_take (hM x hx))
    clear hM hts
    have htl : (keys.take i).length ≤ 10 := by rw [List.length_take]; omega
    generalize runP st st.col [] (keys.take i) = R at *
    obtain ⟨st', e', ns'⟩ := R
    dsimp only at *
    subst he
    obtain ⟨b1, b2, b3, b4, b5, b6⟩ := hB
    obtain ⟨y1, y2, y3, y4, y5, y6, y7, y8⟩ := hK
    unfold TwD at hd
    dsimp only [twL, List.cons_append, List.nil_append] at hne N
    have hvl := iv.length
    with_reducible show wpAny _ _ _ _ _ _
    k_fold
    walk_at "go"
    · rw [show editP st' e ns' key = ({ st' with on := !st'.on }, e, ns') from editP_16 (by assumption)]
      walk_at "t4E"
    · rw [show editP st' e ns' key = (puts st' [13, 10], 0, ns') from editP_5 (by assumption)]
      walk_at "t4E"
    · rw [show editP st' e ns' key = (puts st' (List.replicate (st'.col - e).toNat [8, 32, 8]).flatten, e, []) from by rw [editP_24 (by assumption), back_puts]]
      walk_at "t4E"
    · have hE : editP st' e ns' key = (keysP (puts st' ([35, 13, 10] ++ (List.replicate e.toNat [32]).flatten)) ns', e, ns') := by
        rw [editP_18 (by assumption), retype_puts fun x hx => ⟨(hrow x hx).2.2.1, (hrow x hx).2.2.2.2.2.1, (hrow x hx).2.2.2.2.1⟩]
      have hz1 : Small (puts st' ([35, 13, 10] ++ (List.replicate e.toNat [32]).flatten)) 5000 := Small.puts (Small.mono b6 (by simp only [flat_rep, List.length_append, List.length_replicate, List.length_cons, List.length_nil]; omega))
      generalize puts st' ([35, 13, 10] ++ (List.replicate e.toNat [32]).flatten) = st1 at *
      refine' for_ownM (l := k) (nn := nn') (vs := vs') (ns := ns') (fun i nx => ∃ p1, nx = p1 ++ [(it, ito), (kl, listOf kvs.toArray nk), (k, listOf vs'.toArray nn')] ∧ TwPost w t (keysP st1 (ns'.take i)) p1) rfl ?gm iv ?gF (led := _) ?gN ⟨_, rfl, ⟨?v0, ?v1, ?v2, ?v3, ?v4, ?v5, rfl, ?hd, ?c1, ?c2⟩⟩ ?gl ?g1 ?g2
      case gF => k_asm
      case c1 => assumption
      case c2 => assumption
      case hd => walk_at "twD"
      case gN => walk_at "newsOf"
      case gm => k_mem
      case gl => rintro i nx ⟨p1, rfl, _⟩; exact List.mem_append_right _ (.tail _ (.tail _ (.head _)))
      case g1 =>
        intro j one ot nx h tk it2 ito2 hn2
        revert nx
        refine jtw ?_
        intro o2 colT2 us2 nu2 ps2 np2 hd2 c1 c2 hne2 F2 N2
        have hzi : Small (keysP st1 (ns'.take j)) 12 := Small.keysP (Small.mono hz1 (by have := (List.length_take_le' j ns'); omega))
        have hone := (hrow one (List.mem_of_getElem? hn2)).2.2.2.1
        dsimp only [twL, List.cons_append, List.nil_append] at hne2 N2
        with_reducible show wpAny _ _ _ _ _ _
        k_fold
        walk_at "go"
        dsimp only [TEnd]
        rw [take_snoc hn2, keysP_snoc]
        walk_at "twT"
      case g2 =>
        intro u2 nx h tk
        revert nx
        refine jtw ?_
        intro o2 colT2 us2 nu2 ps2 np2 hd2 c1 c2 F2 N2
        rw [List.take_length] at c1 c2 hd2
        with_reducible show wpAny _ _ _ _ _ _
        walk_at "go"
        rw [hE]
        walk_at "t4E"
    · have h18 : ¬18 = key → 21 = key := by
        have := (by assumption : ([18, 21].any fun x => x == key) = true)
        simp at this
        omega
      have hE : editP st' e ns' key = (puts st' ([35, 13, 10] ++ (List.replicate e.toNat [32]).flatten), e, []) := by
        rw [editP_21 (by omega), ← retype_puts (fun x hx => absurd hx (List.not_mem_nil))]; rfl
      generalize puts st' ([35, 13, 10] ++ (List.replicate e.toNat [32]).flatten) = st1 at *
      refine' for_ownM (l := ?lz) (nn := 0) (vs := []) (ns := []) (fun i nx => ∃ p1, nx = p1 ++ [(it, ito), (kl, listOf kvs.toArray nk), (?lz, listOf ([] : List Value).toArray 0)] ∧ TwPost w t st1 p1) rfl ?zgm .nil ?zgF (led := _) ?zgN ⟨_, rfl, ⟨?zv0, ?zv1, ?zv2, ?zv3, ?zv4, ?zv5, rfl, ?zhd, ?zc1, ?zc2⟩⟩ ?zgl (fun i n t nx h tk it ito hn => by cases hn) ?zg2
      case zgF => k_asm
      case zc1 => assumption
      case zc2 => assumption
      case zhd => walk_at "twD"
      case zgN => walk_at "newsOf"
      case zgm => k_mem
      case zgl => rintro i nx ⟨p1, rfl, _⟩; exact List.mem_append_right _ (.tail _ (.tail _ (.head _)))
      case zg2 =>
        intro u2 nx h tk
        revert nx
        refine jtw ?_
        intro o2 colT2 us2 nu2 ps2 np2 hd2 c1 c2 F2 N2
        with_reducible show wpAny _ _ _ _ _ _
        walk_at "go"
        rw [hE]
        walk_at "t4E"
    · rw [show editP st' e ns' key = (keyP st' key, e, ns' ++ [key]) from by
        have h18 : ¬18 = key ∧ ¬21 = key := by simpa using (by assumption : ([18, 21].any fun x => x == key) = false)
        rw [editP_else (by omega), keyP_eq y3 y6 y5]]
      have iv9 := ints_snoc iv key kt
      (rename News _ _ _ _ => N9); simp only [List.push_toArray] at N9
      walk_at "t4E"
  case done =>
    rintro k e et u v nx h tk ⟨vs', nn', p1, rfl, hk, hkk, iv, he, o', colT', us', nu', ps', np', rfl, hd, i1, i2⟩ F N
    obtain ⟨q1, q2, q3⟩ := id hk
    have hB := runP_bounds (st := st) (B := 300) hc hC (by omega) (R := 9000) keys hl (Small.mono hz (by omega))
    rw [List.take_length] at *
    have b6 := hB.2.2.2.2.2
    unfold TwD at hd
    dsimp only [twL, List.cons_append, List.nil_append] at N
    with_reducible show wpAny _ _ _ _ _ _
    walk_at "go"
    rw [show put1 (runP st st.col [] keys).1 13 = puts (runP st st.col [] keys).1 [13] from rfl]
    refine' ⟨_, _, _, _, rfl, ?yF, ?yN, _, _, _, _, rfl, rfl, hk, hkk, iv, twPost_of ?yhd ?yc ?yo ?yc1 ?yc2⟩
    case yF => k_asm
    case yN => walk_at "newsOf"
    case yhd => assumption
    case yc => exact rfl
    case yo => exact rfl
    case yc1 => assumption
    case yc2 => assumption
def OkRow (keys : List Int) : Prop := keys.length ≤ 10 ∧ ∀ k ∈ keys, Okey k
theorem law_typed_tell' {w : World} {t : TS} {st : St} {colT : Tok} {o : Obj} {us : List Value} {nu : Nat} {ps : List Value} {np : Nat} {kl : Nat} {kvs : List Value} {keys : List Int} {nk : Nat}
    (hok : t.Ok) (hd : TwD w t st colT o) (h1 : IntsAre us st.shown) (h2 : IntsAre ps st.printed) (hv : IntsAre kvs keys) (ho : t.Off kl) (hK : OkRow keys) (hc : 0 ≤ st.col) (hC : st.col ≤ 300) (hz : Small st 50000) :
    Tell w 163 3 1200 [.ref t.tw, .ref kl] (twL t o us nu ps np ++ [(kl, listOf kvs.toArray nk)])
      (fun r post => ∃ l p1 vs' nn', r = .ref l ∧ post = p1 ++ [(kl, listOf kvs.toArray nk), (l, listOf vs'.toArray nn')] ∧ t.Off l ∧ @Ne Nat l kl ∧ IntsAre vs' (runP st st.col [] keys).2.2 ∧ TwPost w t (put1 (runP st st.col [] keys).1 13) p1) :=
  law_typed_tell (w := w) (nu := nu) (np := np) (nk := nk) hok hd h1 h2 hv ho hK.2 hK.1 hc hC hz
theorem hret_typ {G : Value → List (Addr × Obj) → Heap → Nat → Prop} {w : World} {t : TS} {st : St} {row : List Int} {kq : Addr × Obj} {ka : Addr} (k : ∀ l vs nn o colT us nu ps np h tk, t.Off l → @Ne Nat l ka → IntsAre vs row →
      Obj.IsDictOf (PySem.strKind PySem.Challenge.rw_rh0267_01.row.prog w) o (strPairs [(Value.str (Str.ofString "shown") 0, Value.ref t.sl), (Value.str (Str.ofString "printed") 0, Value.ref t.pl), (Value.str (Str.ofString "is_on") 0, Value.bool st.on), (Value.str (Str.ofString "column") 0, Value.int st.col colT)]) →
      IntsAre us st.shown → IntsAre ps st.printed → G (.ref l) (twL t o us nu ps np ++ [kq, (l, listOf vs.toArray nn)]) h tk) :
    ∀ r post h tk, (∃ l p1 vs nn, r = .ref l ∧ post = p1 ++ [kq, (l, listOf vs.toArray nn)] ∧ t.Off l ∧ @Ne Nat l ka ∧ IntsAre vs row ∧ TwPost w t st p1) → G r post h tk := by
  rintro r post h tk ⟨l, p1, vs, nn, rfl, rfl, of, nk, iv, o, colT, us, nu, ps, np, rfl, hd, h1, h2⟩; exact k l vs nn o colT us nu ps np h tk of nk iv hd h1 h2
def bodyOf : Stmt → List Stmt
  | .FunctionDef (body := b) .. => b
  | _ => []
def scopeOf : Stmt → Option Scope
  | .FunctionDef (scope := s) .. => some s
  | _ => none
def lawStmt : Option Stmt := PySem.Challenge.pw_rh0267_01.main.body.getLast?
def lawBody : List Stmt := bodyOf (lawStmt.getD (.Pass default))
def lawScope : Scope := (scopeOf (lawStmt.getD (.Pass default))).getD default
def Osign (k : Int) : Prop := k ≠ 127 ∧ k ≠ 26
theorem rangeSize_nat' {k : Int} (h : 0 ≤ k) : Builtin.Range.rangeSize 0 k 1 = ((k.toNat : Nat) : Int) := by
  have := rangeSize_nat 0 k
  rw [this]; congr 1; omega
theorem my_item {prog : Program} {w : World} {A : Around} {E : Value → Shared → Prop} {s : Shared} {value slice : PySem.Expr} {l : Addr} {vs : List Value} {k : Int} {u : Tok} {v : Value} {Q : Value → Shared → Prop}
    (hl : s.heap.IsList l vs.toArray) (h0 : 0 ≤ k) (hhi : k < 2 ^ 63) (hx : vs[k.toNat]? = some v) (h : Q v s)
    (hs : subscripted slice false (.ref l) (.int k u) = operate [.ref l, .int k u] (getItem (.ref l) (.int k u)) := by with_unfolding_all rfl) :
    wpAny (model prog w) A (subscriptTail value slice (.ref l) (.int k u)) Q E s :=
  tail_any hl.typeIs slot_list_getitem.lookup (wpAny_getItem_list hl h0 hhi (by simpa using hx) h) hs
theorem menu_keys : ∀ j : Nat, j < 13 → ∃ k t, ([.int 65 369, .int 97 370, .int 9 371, .int 1 372, .int 32 373, .int 66 374, .int 16 375, .int 5 376, .int 24 377, .int 18 378, .int 21 379, .int 16 380, .int 5 381] : List Value)[j]? = some (.int k t) ∧ Okey k
  | 0, _ => ⟨65, 369, rfl, by unfold Okey; decide⟩
  | 1, _ => ⟨97, 370, rfl, by unfold Okey; decide⟩
  | 2, _ => ⟨9, 371, rfl, by unfold Okey; decide⟩
  | 3, _ => ⟨1, 372, rfl, by unfold Okey; decide⟩
  | 4, _ => ⟨32, 373, rfl, by unfold Okey; decide⟩
  | 5, _ => ⟨66, 374, rfl, by unfold Okey; decide⟩
  | 6, _ => ⟨16, 375, rfl, by unfold Okey; decide⟩
  | 7, _ => ⟨5, 376, rfl, by unfold Okey; decide⟩
  | 8, _ => ⟨24, 377, rfl, by unfold Okey; decide⟩
  | 9, _ => ⟨18, 378, rfl, by unfold Okey; decide⟩
  | 10, _ => ⟨21, 379, rfl, by unfold Okey; decide⟩
  | 11, _ => ⟨16, 380, rfl, by unfold Okey; decide⟩
  | 12, _ => ⟨5, 381, rfl, by unfold Okey; decide⟩
  | n + 13, h => absurd h (by omega)
theorem off1_all {D : Addr} : ∀ {l : List (Addr × Obj)}, LCg.Off1 D l → ∀ p ∈ l, @Ne Nat p.1 D
  | [], _, _, h => nomatch h
  | q :: l, o, p, h => by
    rcases List.mem_cons.mp h with rfl | h
    · exact o.1
    · exact off1_all o.2 p h
theorem bd_room {K i : Nat} {k : Int} (hi : i < k.toNat) (hk : k ≤ 10) (hK : K + 10 ≤ 1000) : K + i ≤ 10000 := by omega
theorem bd_end {K : Nat} {k : Int} (hk : k ≤ 10) : K + k.toNat ≤ K + 10 := by omega
theorem le_ten {k : Int} (h : k < 11) : k ≤ 10 := by omega
theorem le_five {k : Int} (h : k < 5) : k ≤ 10 := by omega
theorem draws_keys {w : World} {loose : List Str} {mean : ExcName → Option Value} {mg mb : Str → Option Value} {dp un : Nat} {gd : Option (List Code)} {outer : List Env} {A₀ : Around} {base g : Heap} {L fa : Addr} {cd : Value} {s : Shared} {m : Str → Option Value}
    {p1 p2 p3 p4 p5 p6 : Pos} {led rest : List (Addr × Obj)} {oc : Obj} {r l : Nat} {turn : Int} {tt : Tok} {nr nl : Nat} {ws : List Value} {sc : List Int} {rng : Addr} {k : Int} {t u v : Tok} {Q : Value → Shared → Prop}
    (B : Below A₀ base outer g) (F : Fr g L s.heap m) (X : (hd.heap_39 w.params).In g) (T : Top hd.view_39 loose mean mg mb g) (N : News g L s.heap led)
    (S : Sel led [(L + 1, oc), (r, listOf #[.ref l, .int turn tt] nr), (l, listOf ws.toArray nl)] rest) (O : OwnOff rest [r, l]) (hoc : oc.data = .cell (some (.ref r))) (hr1 : r ≠ L + 1) (hl1 : l ≠ L + 1) (hrl : r ≠ l)
    (hws : IntsAre ws sc) (hsc : sc.length ≤ 1000) {K : Nat} (hB : Bd turn K) (hK : K + 10 ≤ 1000) (hR : IsRange s.heap rng 0 k 1 t u v) (hk0 : 0 ≤ k) (hk : k ≤ 10) (hdp : dp + 10 < recursionLimit) (hun : un + 1000 < cLine)
    (fin : ∀ D h tk ys rows turn' tt' nr', IntsAre ys rows → (rows.length : Int) = k → (∀ x ∈ rows, Okey x) → Bd turn' (K + 10) → Fr g L h m → News g L h ((D, LCg.lst ys) :: (L + 1, oc) :: (r, listOf #[.ref l, .int turn' tt'] nr') :: (l, listOf ws.toArray nl) :: rest) →
      (∀ p ∈ ((L + 1, oc) :: (r, listOf #[.ref l, .int turn' tt'] nr') :: (l, listOf ws.toArray nl) :: rest : List (Addr × Obj)), @Ne Nat p.1 D) → Q (.ref D) { s with heap := h, toks := tk }) :
    LCg.CompSrc PySem.Challenge.rw_rh0267_01.row.prog w (ktrTop dp un gd (Str.ofString "law") lawScope L fa cd [(Str.ofString "rope", L + 1)] outer) g L m (envX (Str.ofString "law") lawScope L fa cd [(Str.ofString "rope", L + 1)])
      (.Subscript (.Name (Str.ofString "_law_keys") p1) (.Call (.Name (Str.ofString "_law_next") p2) [.Name (Str.ofString "rope") p3, .Constant (.int 13) 0 p4] [] p5) p6) (Str.ofString "spot")
      { kind := ScopeKind.function, names := [(Str.ofString ".0", NameKind.local), (Str.ofString "spot", NameKind.local), (Str.ofString "_law_keys", NameKind.globalImplicit), (Str.ofString "_law_next", NameKind.globalImplicit), (Str.ofString "rope", NameKind.free)], isGenerator := false, isCoroutine := false }
      [(Str.ofString "rope", L + 1)] (fun s₂ => LCg.FinE g L m s₂ Q) (.ref rng) s := by
  refine LCg.CompSrc.range (n := k.toNat) rfl F (kst_newsOf N S.mem) hR (small_one (by omega) (by omega) (by omega) (by omega)) (by rw [rangeSize_nat' hk0]) (by rw [PySem.sizeLine_eq]; omega) ?_
  intro g'
  refine comp_inv (fun i ys led => ∃ rows turn' tt' nr', IntsAre ys rows ∧ rows.length = i ∧ (∀ x ∈ rows, Okey x) ∧ Bd turn' (K + i) ∧ led = (L + 1, oc) :: (r, listOf #[.ref l, .int turn' tt'] nr') :: (l, listOf ws.toArray nl) :: rest) ⟨[], turn, tt, nr, .nil, rfl, (fun _ h => nomatch h), hB, rfl⟩ ?_ ?_
  · rintro i v I oI C oC D m₂ ys led' h tk E' hi hv hC hx F N off ne ⟨rows, turn', tt', nr', iv, hrl', hrow, hb, rfl⟩
    have off' := off
    simp only [LCg.Off3] at off
    obtain ⟨⟨f1, f2, f3⟩, ⟨f4, f5, f6⟩, ⟨f7, f8, f9⟩, f10⟩ := off
    obtain ⟨n1, n2, n3⟩ := ne
    have offR : OwnOff rest [r, l] := O
    have hb9 : Bd turn' 10000 := Bd.mono hb (bd_room hi hk hK)
    conv => pattern (occs := *) lawScope
            all_goals whnf
    with_reducible show wpAny _ _ _ _ _ _
    k_fold
    walk_at "goS"
    rename_i vd td ttd nrd hd0 tkd vd0 vd1 F1 N1
    obtain ⟨q, qt, hq, hok⟩ := menu_keys vd.toNat (by omega)
    refine my_item (vs := [.int 65 369, .int 97 370, .int 9 371, .int 1 372, .int 32 373, .int 66 374, .int 16 375, .int 5 376, .int 24 377, .int 18 378, .int 21 379, .int 16 380, .int 5 381]) ⟨_, (X.keeps F1.keep) 134 _ (by k_is), rfl, _, rfl⟩ (by omega) (by omega) hq ?_
    try dsimp only
    show LCg.CompEnd _ _ _ _ _ _ _ _ _ _ _ _ _ _
    refine LCg.CompEnd.intro F1 N1 ((L + 1, oc) :: (r, listOf #[.ref l, .int (turn' + 1) ttd] nrd) :: (l, listOf ws.toArray nl) :: rest) (by walk_at "sub") ?_ trivial ⟨rows ++ [q], turn' + 1, ttd, nrd, ints_snoc iv q qt, by rw [List.length_append, hrl']; rfl, ?_, Bd.next hb, rfl⟩
    · simp only [LCg.Off3]; exact ⟨⟨f1, f2, f3⟩, ⟨f4, f5, f6⟩, ⟨f7, f8, f9⟩, f10⟩
    · intro x hx
      rcases List.mem_append.mp hx with hx | hx
      · exact hrow x hx
      · rw [List.mem_singleton.mp hx]; exact hok
  · rintro ys led ⟨rows, turn', tt', nr', iv, hrl', hrow, hb, rfl⟩ D h tk F N o1
    exact fin D h tk ys rows turn' tt' nr' iv (by omega) hrow (Bd.mono hb (bd_end hk)) F N (off1_all o1)
theorem menu_signs : ∀ j : Nat, j < 5 → ∃ k t, ([.int 9 383, .int 13 384, .int 10 385, .int 8 386, .int 67 387] : List Value)[j]? = some (.int k t) ∧ Osign k
  | 0, _ => ⟨9, 383, rfl, by unfold Osign; decide⟩
  | 1, _ => ⟨13, 384, rfl, by unfold Osign; decide⟩
  | 2, _ => ⟨10, 385, rfl, by unfold Osign; decide⟩
  | 3, _ => ⟨8, 386, rfl, by unfold Osign; decide⟩
  | 4, _ => ⟨67, 387, rfl, by unfold Osign; decide⟩
  | n + 5, h => absurd h (by omega)
theorem draws_signs {w : World} {loose : List Str} {mean : ExcName → Option Value} {mg mb : Str → Option Value} {dp un : Nat} {gd : Option (List Code)} {outer : List Env} {A₀ : Around} {base g : Heap} {L fa : Addr} {cd : Value} {s : Shared} {m : Str → Option Value}
    {p1 p2 p3 p4 p5 p6 : Pos} {led rest : List (Addr × Obj)} {oc : Obj} {r l : Nat} {turn : Int} {tt : Tok} {nr nl : Nat} {ws : List Value} {sc : List Int} {rng : Addr} {k : Int} {t u v : Tok} {Q : Value → Shared → Prop}
    (B : Below A₀ base outer g) (F : Fr g L s.heap m) (X : (hd.heap_39 w.params).In g) (T : Top hd.view_39 loose mean mg mb g) (N : News g L s.heap led)
    (S : Sel led [(L + 1, oc), (r, listOf #[.ref l, .int turn tt] nr), (l, listOf ws.toArray nl)] rest) (O : OwnOff rest [r, l]) (hoc : oc.data = .cell (some (.ref r))) (hr1 : r ≠ L + 1) (hl1 : l ≠ L + 1) (hrl : r ≠ l)
    (hws : IntsAre ws sc) (hsc : sc.length ≤ 1000) {K : Nat} (hB : Bd turn K) (hK : K + 10 ≤ 1000) (hR : IsRange s.heap rng 0 k 1 t u v) (hk0 : 0 ≤ k) (hk : k ≤ 10) (hdp : dp + 10 < recursionLimit) (hun : un + 1000 < cLine)
    (fin : ∀ D h tk ys rows turn' tt' nr', IntsAre ys rows → (rows.length : Int) = k → (∀ x ∈ rows, Osign x) → Bd turn' (K + 10) → Fr g L h m → News g L h ((D, LCg.lst ys) :: (L + 1, oc) :: (r, listOf #[.ref l, .int turn' tt'] nr') :: (l, listOf ws.toArray nl) :: rest) →
      (∀ p ∈ ((L + 1, oc) :: (r, listOf #[.ref l, .int turn' tt'] nr') :: (l, listOf ws.toArray nl) :: rest : List (Addr × Obj)), @Ne Nat p.1 D) → Q (.ref D) { s with heap := h, toks := tk }) :
    LCg.CompSrc PySem.Challenge.rw_rh0267_01.row.prog w (ktrTop dp un gd (Str.ofString "law") lawScope L fa cd [(Str.ofString "rope", L + 1)] outer) g L m (envX (Str.ofString "law") lawScope L fa cd [(Str.ofString "rope", L + 1)])
      (.Subscript (.Name (Str.ofString "_law_signs") p1) (.Call (.Name (Str.ofString "_law_next") p2) [.Name (Str.ofString "rope") p3, .Constant (.int 5) 0 p4] [] p5) p6) (Str.ofString "spot")
      { kind := ScopeKind.function, names := [(Str.ofString ".0", NameKind.local), (Str.ofString "spot", NameKind.local), (Str.ofString "_law_signs", NameKind.globalImplicit), (Str.ofString "_law_next", NameKind.globalImplicit), (Str.ofString "rope", NameKind.free)], isGenerator := false, isCoroutine := false }
      [(Str.ofString "rope", L + 1)] (fun s₂ => LCg.FinE g L m s₂ Q) (.ref rng) s := by
  refine LCg.CompSrc.range (n := k.toNat) rfl F (kst_newsOf N S.mem) hR (small_one (by omega) (by omega) (by omega) (by omega)) (by rw [rangeSize_nat' hk0]) (by rw [PySem.sizeLine_eq]; omega) ?_
  intro g'
  refine comp_inv (fun i ys led => ∃ rows turn' tt' nr', IntsAre ys rows ∧ rows.length = i ∧ (∀ x ∈ rows, Osign x) ∧ Bd turn' (K + i) ∧ led = (L + 1, oc) :: (r, listOf #[.ref l, .int turn' tt'] nr') :: (l, listOf ws.toArray nl) :: rest) ⟨[], turn, tt, nr, .nil, rfl, (fun _ h => nomatch h), hB, rfl⟩ ?_ ?_
  · rintro i v I oI C oC D m₂ ys led' h tk E' hi hv hC hx F N off ne ⟨rows, turn', tt', nr', iv, hrl', hrow, hb, rfl⟩
    have off' := off
    simp only [LCg.Off3] at off
    obtain ⟨⟨f1, f2, f3⟩, ⟨f4, f5, f6⟩, ⟨f7, f8, f9⟩, f10⟩ := off
    obtain ⟨n1, n2, n3⟩ := ne
    have offR : OwnOff rest [r, l] := O
    have hb9 : Bd turn' 10000 := Bd.mono hb (bd_room hi hk hK)
    conv => pattern (occs := *) lawScope
            all_goals whnf
    with_reducible show wpAny _ _ _ _ _ _
    k_fold
    walk_at "goS"
    rename_i vd td ttd nrd hd0 tkd vd0 vd1 F1 N1
    obtain ⟨q, qt, hq, hok⟩ := menu_signs vd.toNat (by omega)
    refine my_item (vs := [.int 9 383, .int 13 384, .int 10 385, .int 8 386, .int 67 387]) ⟨_, (X.keeps F1.keep) 135 _ (by k_is), rfl, _, rfl⟩ (by omega) (by omega) hq ?_
    try dsimp only
    show LCg.CompEnd _ _ _ _ _ _ _ _ _ _ _ _ _ _
    refine LCg.CompEnd.intro F1 N1 ((L + 1, oc) :: (r, listOf #[.ref l, .int (turn' + 1) ttd] nrd) :: (l, listOf ws.toArray nl) :: rest) (by walk_at "sub") ?_ trivial ⟨rows ++ [q], turn' + 1, ttd, nrd, ints_snoc iv q qt, by rw [List.length_append, hrl']; rfl, ?_, Bd.next hb, rfl⟩
    · simp only [LCg.Off3]; exact ⟨⟨f1, f2, f3⟩, ⟨f4, f5, f6⟩, ⟨f7, f8, f9⟩, f10⟩
    · intro x hx
      rcases List.mem_append.mp hx with hx | hx
      · exact hrow x hx
      · rw [List.mem_singleton.mp hx]; exact hok
  · rintro ys led ⟨rows, turn', tt', nr', iv, hrl', hrow, hb, rfl⟩ D h tk F N o1
    exact fin D h tk ys rows turn' tt' nr' iv (by omega) hrow (Bd.mono hb (bd_end hk)) F N (off1_all o1)
def st0 : St := ⟨[], [], false, 0⟩
theorem shows_plain : ∀ {os : List Int} {st : St}, (∀ k ∈ os, k ≠ 9) → showsP st os = puts st os
  | [], _, _ => rfl
  | o :: os, st, h => by
    show showsP (showP st o) os = puts (put1 st o) os
    rw [show showP st o = put1 st o from if_neg (h o (.head _))]
    exact shows_plain fun k hk => h k (.tail _ hk)
theorem show_text_plain {w : World} {c : CS} {st : St} {ix : Int} {ixT colT : Tok} {beg : Int} {begT : Tok} {us : List Value} {nu : Nat} {ps : List Value} {np : Nat} {ol : Nat} {vs : List Value} {ns : List Int} {nn : Nat}
    (hok : c.Ok) (h1 : IntsAre us st.shown) (h2 : IntsAre ps st.printed) (hv : IntsAre vs ns) (ho : c.Off ol) (hz : Small st (9 + 8 * ns.length)) (h9 : ∀ k ∈ ns, k ≠ 9) :
    Tell w 84 3 400 [.ref c.x, .ref ol] (conL c ix ixT st colT beg begT us nu ps np ++ [(ol, listOf vs.toArray nn)]) (fun r post => r = .none ∧ ∃ p1, post = p1 ++ [(ol, listOf vs.toArray nn)] ∧ ConPost c ix ixT (puts st ns) beg begT p1) := by
  rw [← shows_plain h9]
  exact show_text_tell hok h1 h2 hv ho hz
theorem keyed_two {k0 k1 : List Int} (h0 : OkRow k0) (h1 : OkRow k1) {ks : List Int} (e : ks = k0 ++ [13] ++ k1 ++ [13]) : Keyed ks 0 k0 ∧ Keyed ks (0 + k0.length + 1) k1 := by
  subst e
  have t1 : (0 + (k0.length : Int) + 1).toNat = k0.length + 1 := by omega
  refine ⟨⟨fun j hj => ?_, ?_, by omega, h0.1, h0.2⟩, ⟨fun j hj => ?_, ?_, by omega, h1.1, h1.2⟩⟩
  · simp only [Int.toNat_zero, Nat.zero_add, List.append_assoc]
    rw [List.getElem?_append_left hj]
  · simp only [Int.toNat_zero, Nat.zero_add, List.append_assoc]
    rw [List.getElem?_append_right (Nat.le_refl _), Nat.sub_self]; rfl
  · rw [t1]
    simp only [List.append_assoc]
    rw [List.getElem?_append_right (by omega)]
    rw [show k0.length + 1 + j - k0.length = j + 1 from by omega]
    show (k1 ++ [13])[j]? = _
    rw [List.getElem?_append_left hj]
  · rw [t1]
    simp only [List.append_assoc]
    rw [List.getElem?_append_right (by omega)]
    rw [show k0.length + 1 + k1.length - k0.length = k1.length + 1 from by omega]
    show (k1 ++ [13])[k1.length]? = _
    rw [List.getElem?_append_right (Nat.le_refl _), Nat.sub_self]; rfl
theorem small0 : Small st0 900000 := by unfold Small st0; decide
local macro_rules | `(tactic| k_room) => `(tactic| ktr_room)
local macro_rules | `(tactic| walk_at "drw") => `(tactic| (
  (case kB => k_asm); (case kF => k_asm); (case kX => k_asm); (case kT => k_asm); (case kN => k_asm); (case kS => walk_at "sel"); (case kO => walk_at "off"); (case hoc => assumption); (case hR => assumption); walk_at "sides"; (case bz => first | exact le_ten (by assumption) | exact le_five (by assumption) | omega); (case hB => walk_at "bd"); (case bK => decide); (try case r1 => walk_at "ne1"); (try case l1 => walk_at "ne1"); (case kd => walk_at "room"); (case ku => walk_at "room");
  intro D' h' tk' ys' rows' turn' tt' nr' iv' hl' hrow' hb' F' N' O'; (try dsimp only); (try k_sweep)))
local macro_rules | `(tactic| walk_at "draw") => `(tactic| first
  | (refine' draws_keys ?kB ?kF ?kX ?kT ?kN ?kS ?kO ?hoc ?r1 ?l1 ?ne ?iv ?hn ?hB ?bK ?hR ?zk ?bz ?kd ?ku ?_; walk_at "drw")
  | (refine' draws_signs ?kB ?kF ?kX ?kT ?kN ?kS ?kO ?hoc ?r1 ?l1 ?ne ?iv ?hn ?hB ?bK ?hR ?zk ?bz ?kd ?ku ?_; walk_at "drw"))
def forBody : Stmt → List Stmt
  | .For (body := b) .. => b
  | _ => []
def signBody : List Stmt := forBody ((forBody (lawBody.getD 6 (.Pass default))).getD 1 (.Pass default))
theorem sel_news {g h : Heap} {L : Addr} {led core rest : List (Addr × Obj)} (N : News g L h led) (S : Sel led core rest) : News g L h (core ++ rest) := fun p hp => N p (S.mem p hp)
theorem jct {w : World} {c : CS} {ix : Int} {ixT : Tok} {st : St} {beg : Int} {begT : Tok} {t : TS} {q : List (Addr × Obj)} {G : List (Addr × Obj) → Prop}
    (k : ∀ colT us nu ps np o ct us2 nu2 ps2 np2, IntsAre us st.shown → IntsAre ps st.printed →
      Obj.IsDictOf (PySem.strKind PySem.Challenge.rw_rh0267_01.row.prog w) o (strPairs [(Value.str (Str.ofString "shown") 0, Value.ref t.sl), (Value.str (Str.ofString "printed") 0, Value.ref t.pl), (Value.str (Str.ofString "is_on") 0, Value.bool st.on), (Value.str (Str.ofString "column") 0, Value.int st.col ct)]) →
      IntsAre us2 st.shown → IntsAre ps2 st.printed → G (conL c ix ixT st colT beg begT us nu ps np ++ (twL t o us2 nu2 ps2 np2 ++ q))) :
    ∀ nx, (∃ p1 p2, nx = p1 ++ (p2 ++ q) ∧ ConPost c ix ixT st beg begT p1 ∧ TwPost w t st p2) → G nx := by
  rintro nx ⟨p1, p2, rfl, ⟨colT, us, nu, ps, np, rfl, h1, h2⟩, ⟨o, ct, us2, nu2, ps2, np2, rfl, hd, h3, h4⟩⟩; exact k colT us nu ps np o ct us2 nu2 ps2 np2 h1 h2 hd h3 h4
theorem sign_loop {w : World} {loose : List Str} {mean : ExcName → Option Value} {mg mb : Str → Option Value} {dp un : Nat} {gd : Option (List Code)} {outer : List Env} {A₀ : Around} {base g : Heap} {L fa : Addr} {cd : Value} {s : Shared} {m : Str → Option Value}
    {led rest : List (Addr × Obj)} {c : CS} {t : TS} {st : St} {ix : Int} {ixT colT : Tok} {beg : Int} {begT : Tok} {us : List Value} {nu : Nat} {ps : List Value} {np : Nat} {o : Obj} {ct : Tok} {us2 : List Value} {nu2 : Nat} {ps2 : List Value} {np2 : Nat} {gl : Nat} {gv : List Value} {G : List Int} {gn : Nat}
    {cl : List (Str × Addr)} {Q : Flow → Shared → Prop}
    (B : Below A₀ base outer g) (F : Fr g L s.heap m) (hm1 : m (Str.ofString "console") = some (.ref c.x)) (hm2 : m (Str.ofString "twin") = some (.ref t.tw)) (X : (hd.heap_39 w.params).In g) (T : Top hd.view_39 loose mean mg mb g) (N : News g L s.heap led)
    (S : Sel led (conL c ix ixT st colT beg begT us nu ps np ++ (twL t o us2 nu2 ps2 np2 ++ [(gl, listOf gv.toArray gn)])) rest)
    (i1 : IntsAre us st.shown) (i2 : IntsAre ps st.printed) (j1 : IntsAre us2 st.shown) (j2 : IntsAre ps2 st.printed) (hd : TwD w t st ct o) (giv : IntsAre gv G)
    (O : OwnOff rest [c.x, c.dx, c.sl, c.pl, t.tw, t.sl, t.pl]) (hok : c.Ok) (htk : t.Ok) (oc : c.Off gl) (ot : t.Off gl) (d1 : c.Off t.tw) (d2 : c.Off t.sl) (d3 : c.Off t.pl)
    (hG : ∀ x ∈ G, Osign x) (hGl : G.length ≤ 4) (hz : Small st 1000) (hdp : dp + 10 < recursionLimit) (hun : un + 1000 < cLine)
    (fin : ∀ u h tk p1 p2, ConPost c ix ixT (showsP st G) beg begT p1 → TwPost w t (showsP st G) p2 → Fr g L h (fun y => if y = Str.ofString "sign" then u else m y) → News g L h (p1 ++ (p2 ++ (gl, listOf gv.toArray gn) :: rest)) → Q .next { s with heap := h, toks := tk }) :
    wpAny (model PySem.Challenge.rw_rh0267_01.row.prog w) (ktrTop dp un gd (Str.ofString "law") lawScope L fa cd cl outer) (pyIter (.ref gl))
      (fun it s₂ => LoopAtV PySem.Challenge.rw_rh0267_01.row.prog w (ktrTop dp un gd (Str.ofString "law") lawScope L fa cd cl outer) g (envX (Str.ofString "law") lawScope L fa cd cl) (Str.ofString "sign") signBody Q (fun _ _ => False) it s₂) (fun _ _ => False) s := by
  have em : m = fun y => if y = Str.ofString "console" then some (.ref c.x) else if y = Str.ofString "twin" then some (.ref t.tw) else m y := by
    funext y
    by_cases h1 : y = Str.ofString "console"
    · simp only [h1, if_true]; exact hm1
    · simp only [if_neg h1]
      by_cases h2 : y = Str.ofString "twin"
      · simp only [h2, if_true]; exact hm2
      · simp only [if_neg h2]
  obtain ⟨t1, t2, t3⟩ := id htk
  obtain ⟨q1, q2, q3, q4⟩ := id oc
  obtain ⟨q5, q6, q7⟩ := id ot
  obtain ⟨r1, r2, r3, r4⟩ := id d1
  obtain ⟨r5, r6, r7, r8⟩ := id d2
  obtain ⟨r9, r10, r11, r12⟩ := id d3
  have N1 := sel_news N S
  refine for_ownM (l := gl) (nn := gn) (vs := gv) (ns := G) (fun i nx => ∃ p1 p2, nx = p1 ++ (p2 ++ (gl, listOf gv.toArray gn) :: rest) ∧ ConPost c ix ixT (showsP st (G.take i)) beg begT p1 ∧ TwPost w t (showsP st (G.take i)) p2)
    rfl (by simp) giv F (led := conL c ix ixT st colT beg begT us nu ps np ++ (twL t o us2 nu2 ps2 np2 ++ (gl, listOf gv.toArray gn) :: rest)) (by simpa using N1) ⟨_, _, rfl, ⟨_, _, _, _, _, rfl, i1, i2⟩, ⟨_, _, _, _, _, _, rfl, hd, j1, j2⟩⟩ (by rintro i nx ⟨p1, p2, rfl, _⟩; simp) ?_ ?_
  · clear N N1 F hd i1 i2 j1 j2
    intro i sg tg nx h tk it ito hn
    revert nx
    refine jct ?_
    intro colT' us' nu' ps' np' o' ct' us2' nu2' ps2' np2' i1 i2 hd j1 j2 hne F N
    have hzi : Small (showsP st (G.take i)) 500 := Small.showsP (Small.mono hz (by have := (List.length_take_le' i G); omega))
    have hsg := hG sg (List.mem_of_getElem? hn)
    obtain ⟨s1, s2⟩ := id hsg
    rw [em] at F
    dsimp only [conL, twL, List.cons_append, List.nil_append] at hne N
    have hsn : showsP st (G.take (i + 1)) = showP (showsP st (G.take i)) sg := by rw [take_snoc hn, showsP_snoc]
    generalize showsP st (G.take i) = st1 at *
    have hf1 := Int.fmod_nonneg_of_pos st1.col (show (0 : Int) < 8 by decide)
    have hf2 := Int.fmod_lt_of_pos st1.col (show (0 : Int) < 8 by decide)
    conv => pattern (occs := *) lawScope
            all_goals whnf
    conv => enter [3, 1]; whnf
    with_reducible show wpAny _ _ _ _ _ _
    k_fold
    walk_at "go"
    all_goals dsimp only [TEnd]
    all_goals rw [hsn]
    · have e : showP st1 sg = puts st1 (List.replicate (8 - st1.col.fmod 8).toNat [32]).flatten := by
        rw [showP, if_pos (by assumption), flat_rep, Int.fmod_eq_emod_of_nonneg _ (by decide)]
      refine' ⟨_, _, _, _, rfl, ?kF, ?kN, ?ne, ?mz, _, _, rfl, ⟨?v1, ?v2, ?v3, ?v4, ?v5, rfl, ?c1, ?c2⟩, twPost_of ?hd ?hc ?ho ?c3 ?c4⟩
      case kF => k_asm
      case kN => walk_at "newsOf"
      case mz => exact fun y hy => (if_neg hy).trans (congrFun em.symm y)
      case ne => walk_at "nes"
      case c1 => assumption
      case c2 => assumption
      case hd => assumption
      case hc => rw [e]
      case ho => rw [e]
      case c3 => rw [e]; assumption
      case c4 => rw [e]; assumption
    · have e : showP st1 sg = puts st1 [sg] := by rw [showP, if_neg (by assumption)]; rfl
      refine' ⟨_, _, _, _, rfl, ?kFx, ?kNx, ?nex, ?mzx, _, _, rfl, ⟨?v1x, ?v2x, ?v3x, ?v4x, ?v5x, rfl, ?c1x, ?c2x⟩, twPost_of ?hdx ?hcx ?hox ?c3x ?c4x⟩
      case kFx => k_asm
      case kNx => walk_at "newsOf"
      case mzx => exact fun y hy => (if_neg hy).trans (congrFun em.symm y)
      case nex => walk_at "nes"
      case c1x => assumption
      case c2x => assumption
      case hdx => assumption
      case hcx => rw [e]
      case hox => rw [e]
      case c3x => rw [e]; assumption
      case c4x => rw [e]; assumption
  · rintro u nx h tk ⟨p1, p2, rfl, hp1, hp2⟩ F' N'
    rw [List.take_length] at hp1 hp2
    exact fin u h tk p1 p2 hp1 hp2 F' N'
theorem show_text_v {w : World} {c : CS} {st S : St} {ix : Int} {ixT colT : Tok} {beg : Int} {begT : Tok} {us : List Value} {nu : Nat} {ps : List Value} {np : Nat} {ol : Nat} {vs : List Value} {ns : List Int} {nn : Nat}
    (hok : c.Ok) (h1 : IntsAre us st.shown) (h2 : IntsAre ps st.printed) (hv : IntsAre vs ns) (ho : c.Off ol) (hz : Small st (9 + 8 * ns.length)) (h9 : ∀ k ∈ ns, k ≠ 9) (hS : S = puts st ns) :
    Tell w 84 3 400 [.ref c.x, .ref ol] (conL c ix ixT st colT beg begT us nu ps np ++ [(ol, listOf vs.toArray nn)]) (fun r post => r = .none ∧ ∃ p1, post = p1 ++ [(ol, listOf vs.toArray nn)] ∧ ConPost c ix ixT S beg begT p1) := by
  subst hS
  exact show_text_plain hok h1 h2 hv ho hz h9
theorem law_put_v {w : World} {t : TS} {st S : St} {colT : Tok} {o : Obj} {us : List Value} {nu : Nat} {ps : List Value} {np : Nat} {ol : Nat} {vs : List Value} {ns : List Int} {nn : Nat}
    (hok : t.Ok) (hd : TwD w t st colT o) (h1 : IntsAre us st.shown) (h2 : IntsAre ps st.printed) (hv : IntsAre vs ns) (ho : t.Off ol) (h127 : ∀ k ∈ ns, k ≠ 127) (hz : Small st (2 + ns.length)) (hS : S = puts st ns) :
    Tell w 149 1 600 [.ref t.tw, .ref ol] (twL t o us nu ps np ++ [(ol, listOf vs.toArray nn)]) (fun r post => r = .none ∧ ∃ p1, post = p1 ++ [(ol, listOf vs.toArray nn)] ∧ TwPost w t S p1) := by
  subst hS
  exact law_put_tell hok hd h1 h2 hv ho h127 hz
/-- what a row's keys leave: the row, both sides' state -/
structure RowIs (st : St) (keys row : List Int) (S : St) : Prop where
  row : row = (runP st st.col [] keys).2.2
  st : S = put1 (runP st st.col [] keys).1 13
theorem read_row_v {w : World} {c : CS} {st S : St} {row : List Int} {ix : Int} {ixT colT : Tok} {beg : Int} {begT : Tok} {us : List Value} {nu : Nat} {ps : List Value} {np : Nat} {kvs : List Value} {ks : List Int} {nk : Nat} {keys : List Int} {tm : Tok}
    (hok : c.Ok) (h1 : IntsAre us st.shown) (h2 : IntsAre ps st.printed) (hk : IntsAre kvs ks) (hks : ks.length ≤ 1000) (hK : Keyed ks ix keys) (hR : RowIs st keys row S) (hc : 0 ≤ st.col) (hC : st.col ≤ 300) (hz : Small st 50000) :
    Tell w 133 7 1600 [.ref c.x, .int 20 tm] (conL c ix ixT st colT beg begT us nu ps np ++ [(c.kl, listOf kvs.toArray nk)])
      (fun r post => ∃ l ixT' beg' begT' p1 vs' nn', r = .ref l ∧ post = p1 ++ [(c.kl, listOf kvs.toArray nk), (l, listOf vs'.toArray nn')] ∧ c.Off l ∧ @Ne Nat l c.kl ∧ IntsAre vs' row ∧ ConPost c (ix + keys.length + 1) ixT' S beg' begT' p1) := by
  obtain ⟨rfl, rfl⟩ := hR
  intro loose mean mg mb dp un gd cn cs a ccd cl outer A₀ base h₀ L m rest s Q E B F X N O T hks' hd hu hret
  refine read_row_tell' hok h1 h2 hk hks hK hc hC hz loose mean mg mb dp un gd cn cs a ccd cl outer A₀ base h₀ L m rest s Q E B F X N O T hks' hd hu fun r post h' tk' hp => hret r post h' tk' ?_
  obtain ⟨l, ixT', begT', p1, vs', nn', q⟩ := hp
  exact ⟨l, ixT', _, begT', p1, vs', nn', q⟩
theorem law_typed_v {w : World} {t : TS} {st S : St} {row : List Int} {colT : Tok} {o : Obj} {us : List Value} {nu : Nat} {ps : List Value} {np : Nat} {kl : Nat} {kvs : List Value} {keys : List Int} {nk : Nat}
    (hok : t.Ok) (hd : TwD w t st colT o) (h1 : IntsAre us st.shown) (h2 : IntsAre ps st.printed) (hv : IntsAre kvs keys) (ho : t.Off kl) (hK : OkRow keys) (hR : RowIs st keys row S) (hc : 0 ≤ st.col) (hC : st.col ≤ 300) (hz : Small st 50000) :
    Tell w 163 3 1200 [.ref t.tw, .ref kl] (twL t o us nu ps np ++ [(kl, listOf kvs.toArray nk)])
      (fun r post => ∃ l p1 vs' nn', r = .ref l ∧ post = p1 ++ [(kl, listOf kvs.toArray nk), (l, listOf vs'.toArray nn')] ∧ t.Off l ∧ @Ne Nat l kl ∧ IntsAre vs' row ∧ TwPost w t S p1) := by
  obtain ⟨rfl, rfl⟩ := hR
  exact law_typed_tell' hok hd h1 h2 hv ho hK hc hC hz
local macro_rules | `(tactic| walk_at "told") => `(tactic| refine' show_text_v ?ok ?i1 ?i2 ?i3 ?oo ?zz ?h9 ?hS)
local macro_rules | `(tactic| walk_at "told") => `(tactic| refine' law_put_v ?ok ?hd ?i1 ?i2 ?i3 ?oo ?h7 ?zz ?hS)
theorem col_13 (st : St) : (put1 st 13).col = st.col := by simp [put1, colOf]
/-- what both sides are behind a row -/
def rowP (st : St) (keys : List Int) : St := put1 (runP st st.col [] keys).1 13
theorem rowP_bounds {st : St} {keys : List Int} {B : Int} {R : Nat} (hc : 0 ≤ st.col) (hC : st.col ≤ B) (hB : B ≤ 200) (hk : OkRow keys) (hz : Small st (R + 40001)) :
    0 ≤ (rowP st keys).col ∧ (rowP st keys).col ≤ B + 80 ∧ Small (rowP st keys) R := by
  have h := runP_bounds (R := R + 1) hc hC (by omega) keys hk.1 (Small.mono hz (by have := hk.1; omega))
  have hl := hk.1
  unfold rowP
  rw [col_13]
  exact ⟨h.2.2.1, by have := h.2.2.2.1; have := h.2.2.2.2.1; omega, Small.put1 h.2.2.2.2.2⟩
theorem showsP_col : ∀ {os : List Int} {st : St}, 0 ≤ st.col → 0 ≤ (showsP st os).col ∧ (showsP st os).col ≤ st.col + 8 * os.length
  | [], st, h => ⟨h, by simp [showsP]⟩
  | o :: os, st, h => by
    have h1 := showP_col (o := o) h
    have h2 := showsP_col (os := os) h1.1
    show 0 ≤ (showsP (showP st o) os).col ∧ (showsP (showP st o) os).col ≤ _
    rw [List.length_cons]
    omega
structure Apart (c : CS) (t : TS) (a : Nat) : Prop where
  con : c.Off a
  kl : a ≠ c.kl
  tw : t.Off a
def turnBody : List Stmt := forBody (lawBody.getD 6 (.Pass default))
theorem off_get {r : List (Addr × Obj)} {adr : List Addr} (O : OwnOff r adr) {p : Addr × Obj} (hp : p ∈ r) {b : Addr} (hb : b ∈ adr) : @Ne Nat p.1 b := O p hp b hb
theorem off_tail {r : List (Addr × Obj)} {adr : List Addr} {p : Addr × Obj} (O : OwnOff (p :: r) adr) : OwnOff r adr := fun q hq => O q (.tail _ hq)
theorem off_v_get {r : List (Addr × Obj)} {adr : List Addr} (O : OwnOff r adr) {b : Addr} (hb : b ∈ adr) : OwnOff r [b] := fun p hp x hx => by rw [List.mem_singleton.mp hx]; exact O p hp b hb
/-- what a turn of the law's last loop leaves -/
inductive TurnEnd (w : World) (g : Heap) (L : Addr) (s : Shared) (m : Str → Option Value) (c : CS) (t : TS) (S2 : St) (ix : Int) (kvs : List Value) (nk : Nat) (rest : List (Addr × Obj)) (fl : Flow) (s' : Shared) : Prop
  | mk (f : fl = .next) (h' : Heap) (tk' : Nat) (u' : Option Value) (ixT' colT' : Tok) (beg' : Int) (begT' : Tok) (us' : List Value) (nu' : Nat) (ps' : List Value) (np' : Nat) (o' : Obj) (ct' : Tok) (us2' : List Value) (nu2' : Nat) (ps2' : List Value) (np2' : Nat)
      (e : s' = { s with heap := h', toks := tk' }) (F : Fr g L h' (fun y => if y = Str.ofString "sign" then u' else m y))
      (N : News g L h' (conL c ix ixT' S2 colT' beg' begT' us' nu' ps' np' ++ ((c.kl, listOf kvs.toArray nk) :: (twL t o' us2' nu2' ps2' np2' ++ rest))))
      (i1 : IntsAre us' S2.shown) (i2 : IntsAre ps' S2.printed) (j1 : IntsAre us2' S2.shown) (j2 : IntsAre ps2' S2.printed) (hd : TwD w t S2 ct' o') : TurnEnd w g L s m c t S2 ix kvs nk rest fl s'
theorem law_turn {w : World} {loose : List Str} {mean : ExcName → Option Value} {mg mb : Str → Option Value} {dp un : Nat} {gd : Option (List Code)} {outer : List Env} {A₀ : Around} {base g : Heap} {L fa : Addr} {cd : Value} {s : Shared} {m : Str → Option Value} {cl : List (Str × Addr)}
    {c : CS} {t : TS} {st S1 S2 : St} {ix : Int} {ixT colT : Tok} {beg : Int} {begT : Tok} {us : List Value} {nu : Nat} {ps : List Value} {np : Nat} {o : Obj} {ct : Tok} {us2 : List Value} {nu2 : Nat} {ps2 : List Value} {np2 : Nat}
    {kvs : List Value} {nk : Nat} {ks keys row G : List Int} {j : Int} {tj : Tok} {kk gg a b n4 n5 x y : Nat} {ka ga v u : List Value} {rest : List (Addr × Obj)}
    (B : Below A₀ base outer g) (F : Fr g L s.heap m) (hm1 : m (Str.ofString "console") = some (.ref c.x)) (hm2 : m (Str.ofString "twin") = some (.ref t.tw)) (hm3 : m (Str.ofString "keys") = some (.ref kk)) (hm4 : m (Str.ofString "signs") = some (.ref gg)) (hm5 : m (Str.ofString "turn") = some (.int j tj))
    (X : (hd.heap_39 w.params).In g) (T : Top hd.view_39 loose mean mg mb g)
    (N : News g L s.heap (conL c ix ixT st colT beg begT us nu ps np ++ ((c.kl, listOf kvs.toArray nk) :: (twL t o us2 nu2 ps2 np2 ++ ((a, listOf v.toArray x) :: (b, listOf u.toArray y) :: rest)))))
    (i1 : IntsAre us st.shown) (i2 : IntsAre ps st.printed) (j1 : IntsAre us2 st.shown) (j2 : IntsAre ps2 st.printed) (hd : TwD w t st ct o)
    (hkk : (kk, listOf ka.toArray n4) ∈ rest) (hgg : (gg, listOf ga.toArray n5) ∈ rest) (hja : ka[j.toNat]? = some (.ref a)) (hjb : ga[j.toNat]? = some (.ref b)) (hj0 : 0 ≤ j) (hj1 : j < 2 ^ 63)
    (O : OwnOff rest [c.x, c.dx, c.sl, c.pl, c.kl, t.tw, t.sl, t.pl, a, b])
    (hok : c.Ok) (htk : t.Ok) (d1 : c.Off t.tw) (d2 : c.Off t.sl) (d3 : c.Off t.pl) (d4 : t.Off c.kl) (da : Apart c t a) (db : Apart c t b) (hab : a ≠ b)
    (hk : IntsAre kvs ks) (hkl : ks.length ≤ 1000) (hK : Keyed ks ix keys) (hv : IntsAre v keys) (hO : OkRow keys) (hu : IntsAre u G) (hG : ∀ x ∈ G, Osign x) (hGl : G.length ≤ 4)
    (hc : 0 ≤ st.col) (hC : st.col ≤ 300) (hz : Small st 50000) (hR : RowIs st keys row S1) (hS2 : S2 = showsP S1 G) (hz1 : Small S1 1000)
    (hdp : dp + 10 < recursionLimit) (hun : un + 1700 < cLine) :
    wpAny (model PySem.Challenge.rw_rh0267_01.row.prog w) (ktrTop dp un gd (Str.ofString "law") lawScope L fa cd cl outer) (execs turnBody (envX (Str.ofString "law") lawScope L fa cd cl))
      (TurnEnd w g L s m c t S2 (ix + keys.length + 1) kvs nk ((a, listOf v.toArray x) :: (b, listOf u.toArray y) :: rest)) (fun _ _ => False) s := by
  have em : m = fun y => if y = Str.ofString "console" then some (.ref c.x) else if y = Str.ofString "twin" then some (.ref t.tw) else if y = Str.ofString "keys" then some (.ref kk) else if y = Str.ofString "signs" then some (.ref gg) else if y = Str.ofString "turn" then some (.int j tj) else m y := by
    funext y
    by_cases h1 : y = Str.ofString "console"
    · simp only [h1, if_true]; exact hm1
    · simp only [if_neg h1]
      by_cases h2 : y = Str.ofString "twin"
      · simp only [h2, if_true]; exact hm2
      · simp only [if_neg h2]
        by_cases h3 : y = Str.ofString "keys"
        · simp only [h3, if_true]; exact hm3
        · simp only [if_neg h3]
          by_cases h4 : y = Str.ofString "signs"
          · simp only [h4, if_true]; exact hm4
          · simp only [if_neg h4]
            by_cases h5 : y = Str.ofString "turn"
            · simp only [h5, if_true]; exact hm5
            · simp only [if_neg h5]
  have mE : ∀ z v, (if z = Str.ofString "sign" then v else (if z = Str.ofString "console" then some (.ref c.x) else if z = Str.ofString "twin" then some (.ref t.tw) else if z = Str.ofString "keys" then some (.ref kk) else if z = Str.ofString "signs" then some (.ref gg) else if z = Str.ofString "turn" then some (.int j tj) else m z)) = if z = Str.ofString "sign" then v else m z := fun z v => by rw [← congrFun em z]
  have F0 := F
  rw [em] at F
  clear em hm1 hm2 hm3 hm4 hm5 F0
  obtain ⟨t1, t2, t3⟩ := id htk
  simp only [CS.Off, TS.Off] at d1 d2 d3 d4
  obtain ⟨w1, w2, w3, w4⟩ := d1
  obtain ⟨w5, w6, w7, w8⟩ := d2
  obtain ⟨w9, w10, w11, w12⟩ := d3
  obtain ⟨w13, w14, w15⟩ := d4
  obtain ⟨⟨e1, e2, e3, e4⟩, e5, e6, e7, e8⟩ := da
  obtain ⟨⟨f1, f2, f3, f4⟩, f5, f6, f7, f8⟩ := db
  have nz := cs_ne hok
  have z11 : @Ne Nat t.sl t.tw := Nat.ne_of_gt t1
  have z13 : @Ne Nat t.pl t.sl := Nat.ne_of_gt t2
  have z12 : @Ne Nat t.pl t.tw := Nat.ne_of_gt (Nat.lt_trans t1 t2)
  obtain ⟨⟨z1, z2, z3, z4⟩, z5, z6, z7, z8, z9, z10⟩ := nz
  have OC : OwnOff rest [c.x, c.dx, c.sl, c.pl, c.kl] := off_v_cons (off_of O (by k_mem)) (off_v_cons (off_of O (by k_mem)) (off_v_cons (off_of O (by k_mem)) (off_v_cons (off_of O (by k_mem)) (off_v_cons (off_of O (by k_mem)) off_v_nil))))
  have OT : OwnOff rest [t.tw, t.sl, t.pl, a] := off_v_cons (off_of O (by k_mem)) (off_v_cons (off_of O (by k_mem)) (off_v_cons (off_of O (by k_mem)) (off_v_cons (off_of O (by k_mem)) off_v_nil)))
  have OS : OwnOff rest [c.x, c.dx, c.sl, c.pl, t.tw, t.sl, t.pl] := off_v_cons (off_of O (by k_mem)) (off_v_cons (off_of O (by k_mem)) (off_v_cons (off_of O (by k_mem)) (off_v_cons (off_of O (by k_mem)) (off_v_cons (off_of O (by k_mem)) (off_v_cons (off_of O (by k_mem)) (off_v_cons (off_of O (by k_mem)) off_v_nil))))))
  clear O
  dsimp only [conL, twL, List.cons_append, List.nil_append] at N
  unfold TwD at hd
  conv => pattern (occs := *) lawScope
          all_goals whnf
  conv => enter [3, 1]; whnf
  with_reducible show wpAny _ _ _ _ _ _
  k_fold
  repeat' (first
    | (walk_at "noCall"; walk_at "noSign"; walk_at "one") | fail "n")
  refine' Tell.use (read_row_v ?ok ?i1 ?i2 ?hk ?zk ?hK ?hR ?hc ?hC ?zz) ?kB ?kF ?kX ?kN ?kT ?kS ?kO ?kk ?kd ?ku ?_; (case kB => k_asm); (case kF => k_asm); (case kX => k_asm); (case kN => k_asm); (case kT => k_asm)
  (case kS => walk_at "sel"); walk_at "sides"
  (case kO => (walk_at "flat"; walk_at "off"))
  (case zz => walk_at "small")
  (case kk => exact rfl); (case kd => walk_at "room"); (case ku => walk_at "room")
  k_whole
  refine hret_row ?_
  intro l1 ixT1 beg1 begT1 vs1 nn1 colT1 us1 nu1 ps1 np1 h1' tk1' of1 nk1 iv1 i1x i2x F1 N1 O1
  have g1 := (off_get O1 (.head _) (List.mem_map_of_mem (List.mem_append_right _ (.tail _ (.head _))))).symm
  have g2 := (off_get (off_tail O1) (.head _) (List.mem_map_of_mem (List.mem_append_right _ (.tail _ (.head _))))).symm
  have g3 := (off_get (off_tail (off_tail O1)) (.head _) (List.mem_map_of_mem (List.mem_append_right _ (.tail _ (.head _))))).symm
  have g4 := (off_get (off_tail (off_tail (off_tail O1))) (.head _) (List.mem_map_of_mem (List.mem_append_right _ (.tail _ (.head _))))).symm
  have g5 := (off_get (off_tail (off_tail (off_tail (off_tail O1)))) (.head _) (List.mem_map_of_mem (List.mem_append_right _ (.tail _ (.head _))))).symm
  have gR := off_v_get (off_tail (off_tail (off_tail (off_tail (off_tail O1))))) (List.mem_map_of_mem (List.mem_append_right _ (.tail _ (.head _))))
  dsimp only at g1 g2 g3 g4 g5 gR
  clear O1
  simp only [CS.Off] at of1
  obtain ⟨q1, q2, q3, q4⟩ := of1
  dsimp only [conL, List.cons_append, List.nil_append] at N1
  (try dsimp only)
  k_sweep
  repeat' (first
    | (walk_at "noCall"; walk_at "noSign"; (fail_if_success (with_reducible show wpAny _ _ (subscriptTail _ _ (Value.ref _) (Value.int _ _)) _ _ _)); walk_at "one") | fail "n")
  have hkk1 := (N1 (kk, listOf ka.toArray n4) (by simp only [List.mem_cons, hkk, or_true])).1
  refine my_item (vs := ka) ⟨_, hkk1, rfl, _, rfl⟩ hj0 hj1 hja ?_
  try dsimp only
  repeat' (first
    | (walk_at "noCall"; walk_at "noSign"; (fail_if_success (with_reducible show wpAny _ _ (subscriptTail _ _ (Value.ref _) (Value.int _ _)) _ _ _)); walk_at "one") | fail "n")
  refine' Tell.use (law_typed_v ?ok ?hd ?i1 ?i2 ?iv ?oo ?hK ?hR ?hc ?hC ?zz) ?kB ?kF ?kX ?kN ?kT ?kS ?kO ?kk ?kd ?ku ?_; (case kB => k_asm); (case kF => k_asm); (case kX => k_asm); (case kN => k_asm); (case kT => k_asm)
  (case kS => walk_at "sel"); walk_at "sides"
  (case kO => (walk_at "flat"; walk_at "off"))
  (case zz => walk_at "small")
  (case kk => exact rfl); (case kd => walk_at "room"); (case ku => walk_at "room")
  k_whole
  refine hret_typ ?_
  intro l2 vs2 nn2 o2' colT2 us2x nu2x ps2x np2x h2' tk2' of2 nk2 iv2 hd2 j1x j2x F2 N2 O2
  clear N1 F1
  have u1 := (off_get O2 (.head _) (List.mem_map_of_mem (List.mem_append_right _ (.tail _ (.head _))))).symm
  have u2 := (off_get (off_tail O2) (.head _) (List.mem_map_of_mem (List.mem_append_right _ (.tail _ (.head _))))).symm
  have u3 := (off_get (off_tail (off_tail O2)) (.head _) (List.mem_map_of_mem (List.mem_append_right _ (.tail _ (.head _))))).symm
  have u4 := (off_get (off_tail (off_tail (off_tail O2))) (.head _) (List.mem_map_of_mem (List.mem_append_right _ (.tail _ (.head _))))).symm
  have u5 := (off_get (off_tail (off_tail (off_tail (off_tail O2)))) (.head _) (List.mem_map_of_mem (List.mem_append_right _ (.tail _ (.head _))))).symm
  have u6 := (off_get (off_tail (off_tail (off_tail (off_tail (off_tail O2))))) (.head _) (List.mem_map_of_mem (List.mem_append_right _ (.tail _ (.head _))))).symm
  have u7 := (off_get (off_tail (off_tail (off_tail (off_tail (off_tail (off_tail O2)))))) (.head _) (List.mem_map_of_mem (List.mem_append_right _ (.tail _ (.head _))))).symm
  have uR := off_v_get (off_tail (off_tail (off_tail (off_tail (off_tail (off_tail (off_tail O2))))))) (List.mem_map_of_mem (List.mem_append_right _ (.tail _ (.head _))))
  dsimp only at u1 u2 u3 u4 u5 u6 u7 uR
  clear O2
  simp only [TS.Off] at of2
  obtain ⟨v1, v2, v3⟩ := of2
  (try dsimp only [twL, List.cons_append, List.nil_append] at N2)
  (try dsimp only)
  (try k_sweep)
  repeat' (first
    | (walk_at "noCall"; walk_at "noSign"; (fail_if_success (with_reducible show wpAny _ _ (subscriptTail _ _ (Value.ref _) (Value.int _ _)) _ _ _)); walk_at "one") | fail "n")
  (rename Fr _ _ _ _ => F3)
  refine' For_invVF F3 (by exact rfl) (by exact rfl) ?_
  repeat' (first
    | (walk_at "noCall"; walk_at "noIter"; (fail_if_success (with_reducible show wpAny _ _ (subscriptTail _ _ (Value.ref _) (Value.int _ _)) _ _ _)); walk_at "one") | fail "n")
  have hgg1 := (N2 (gg, listOf ga.toArray n5) (by simp only [List.mem_cons, hgg, or_true])).1
  refine my_item (vs := ga) ⟨_, hgg1, rfl, _, rfl⟩ hj0 hj1 hjb ?_
  try dsimp only
  repeat' (first
    | (walk_at "noCall"; walk_at "noIter"; walk_at "one") | fail "n")
  (rename Fr _ _ _ _ => F3)
  refine' sign_loop (gl := b) ?yB ?yF ?ym1 ?ym2 ?yX ?yT ?yN ?yS ?yi1 ?yi2 ?yj1 ?yj2 ?yhd hu ?yO hok htk ?yoc ?yot ?yd1 ?yd2 ?yd3 hG hGl hz1 ?yp ?yn ?yfin
  (case yB => k_asm); (case yF => exact F3); (case yN => exact N2); (case ym1 => exact rfl); (case ym2 => exact rfl); (case yX => k_asm); (case yT => k_asm); (case yS => walk_at "sel"); (case yi1 => assumption); (case yi2 => assumption); (case yj1 => assumption); (case yj2 => assumption)
  case yhd => exact hd2
  (case yO => (walk_at "flat"; walk_at "off"))
  case yoc => exact ⟨f1, f2, f3, f4⟩
  case yot => exact ⟨f6, f7, f8⟩
  case yd1 => exact ⟨w1, w2, w3, w4⟩
  case yd2 => exact ⟨w5, w6, w7, w8⟩
  case yd3 => exact ⟨w9, w10, w11, w12⟩
  case yp => walk_at "room"
  case yn => walk_at "room"
  case yfin =>
    rw [← hS2]
    clear N2 F3 i1x i2x j1x j2x hd2
    rintro u3 h3 tk3 q1' q2' ⟨colT3, us3, nu3, ps3, np3, rfl, i1y, i2y⟩ ⟨o3, ct3, us4, nu4, ps4, np4, rfl, hd3, j1y, j2y⟩ F3 N3
    unfold TwD at hd3
    (try dsimp only [conL, twL, List.cons_append, List.nil_append] at N3)
    (try dsimp only)
    (try k_sweep)
    repeat' (first
      | ((fail_if_success (with_reducible show wpAny _ _ (compareOp _ _ _) _ _ _)); walk_at "noCall"; walk_at "noIter"; walk_at "one") | fail "n")
    dsimp only
    (rename News _ _ _ _ => N9)
    refine ke_ne_ints (ns := S2.shown) (ms := S2.shown) ⟨_, (N9 (c.sl, listOf us3.toArray nu3) (by k_mem)).1, rfl, _, rfl⟩ ⟨_, (N9 (t.sl, listOf us4.toArray nu4) (by k_mem)).1, rfl, _, rfl⟩ i1y j1y (by ke_room) ?_
    rw [show (!decide (S2.shown = S2.shown)) = false from by simp]
    repeat' (first
      | ((fail_if_success (with_reducible show wpAny _ _ (compareOp CmpOp.NotEq (Value.ref _) _) _ _ _)); walk_at "noCall"; walk_at "noIter"; walk_at "one") | fail "n")
    dsimp only
    (rename News _ _ _ _ => N8)
    refine ke_ne_ints (ns := S2.printed) (ms := S2.printed) ⟨_, (N8 (c.pl, listOf ps3.toArray np3) (by k_mem)).1, rfl, _, rfl⟩ ⟨_, (N8 (t.pl, listOf ps4.toArray np4) (by k_mem)).1, rfl, _, rfl⟩ i2y j2y (by ke_room) ?_
    rw [show (!decide (S2.printed = S2.printed)) = false from by simp]
    repeat' (first
      | ((fail_if_success (with_reducible show wpAny _ _ (compareOp CmpOp.NotEq (Value.ref _) _) _ _ _)); walk_at "noCall"; walk_at "noIter"; walk_at "one") | fail "n")
    · exact absurd rfl (by assumption)
    · (rename News _ _ _ _ => N7)
      have e := funext fun z => mE z u3
      refine' ⟨rfl, h3, _, u3, _, colT3, _, _, us3, nu3, ps3, np3, o3, ct3, us4, nu4, ps4, np4, rfl, cast (congrArg (Fr g L h3) e) F3, kst_newsOf N7 ?sb, i1y, i2y, j1y, j2y, hd3⟩
      case sb =>
        dsimp only [conL, twL, List.cons_append, List.nil_append]
        walk_at "sub"
theorem law_turnU {w : World} {loose : List Str} {mean : ExcName → Option Value} {mg mb : Str → Option Value} {dp un : Nat} {gd : Option (List Code)} {outer : List Env} {A₀ : Around} {base g : Heap} {L fa : Addr} {cd : Value} {s : Shared} {m : Str → Option Value} {cl : List (Str × Addr)}
    {c : CS} {t : TS} {st S1 S2 : St} {ix : Int} {ixT colT : Tok} {beg : Int} {begT : Tok} {us : List Value} {nu : Nat} {ps : List Value} {np : Nat} {o : Obj} {ct : Tok} {us2 : List Value} {nu2 : Nat} {ps2 : List Value} {np2 : Nat}
    {kvs : List Value} {nk : Nat} {ks keys row G : List Int} {j : Int} {tj : Tok} {kk gg a b n4 n5 x y : Nat} {ka ga v u : List Value} {rest led : List (Addr × Obj)} {I : Addr} {it : Obj} {P : (Str → Option Value) → List (Addr × Obj) → Prop} {Q : Flow → Shared → Prop}
    (B : Below A₀ base outer g) (F : Fr g L s.heap m) (hm1 : m (Str.ofString "console") = some (.ref c.x)) (hm2 : m (Str.ofString "twin") = some (.ref t.tw)) (hm3 : m (Str.ofString "keys") = some (.ref kk)) (hm4 : m (Str.ofString "signs") = some (.ref gg)) (hm5 : m (Str.ofString "turn") = some (.int j tj))
    (X : (hd.heap_39 w.params).In g) (T : Top hd.view_39 loose mean mg mb g)
    (N : News g L s.heap led) (S : Sel led ((I, it) :: (conL c ix ixT st colT beg begT us nu ps np ++ ((c.kl, listOf kvs.toArray nk) :: (twL t o us2 nu2 ps2 np2 ++ [(a, listOf v.toArray x), (b, listOf u.toArray y)])))) rest)
    (i1 : IntsAre us st.shown) (i2 : IntsAre ps st.printed) (j1 : IntsAre us2 st.shown) (j2 : IntsAre ps2 st.printed) (hd : TwD w t st ct o)
    (hkk : (kk, listOf ka.toArray n4) ∈ rest) (hgg : (gg, listOf ga.toArray n5) ∈ rest) (hja : ka[j.toNat]? = some (.ref a)) (hjb : ga[j.toNat]? = some (.ref b)) (hj0 : 0 ≤ j) (hj1 : j < 2 ^ 63)
    (O : OwnOff rest [c.x, c.dx, c.sl, c.pl, c.kl, t.tw, t.sl, t.pl, a, b]) (OI : OwnOff rest [I])
    (hok : c.Ok) (htk : t.Ok) (d1 : c.Off t.tw) (d2 : c.Off t.sl) (d3 : c.Off t.pl) (d4 : t.Off c.kl) (da : Apart c t a) (db : Apart c t b) (dI : Apart c t I) (hab : a ≠ b) (haI : @Ne Nat I a) (hbI : @Ne Nat I b)
    (hk : IntsAre kvs ks) (hkl : ks.length ≤ 1000) (hK : Keyed ks ix keys) (hv : IntsAre v keys) (hO : OkRow keys) (hu : IntsAre u G) (hG : ∀ x ∈ G, Osign x) (hGl : G.length ≤ 4)
    (hc : 0 ≤ st.col) (hC : st.col ≤ 300) (hz : Small st 50000) (hR : RowIs st keys row S1) (hS2 : S2 = showsP S1 G) (hz1 : Small S1 1000)
    (hdp : dp + 10 < recursionLimit) (hun : un + 1700 < cLine)
    (next : ∀ u' ixT' colT' beg' begT' us' nu' ps' np' o' ct' us2' nu2' ps2' np2', IntsAre us' S2.shown → IntsAre ps' S2.printed → IntsAre us2' S2.shown → IntsAre ps2' S2.printed → TwD w t S2 ct' o' →
      P (fun y => if y = Str.ofString "sign" then u' else m y) (conL c (ix + keys.length + 1) ixT' S2 colT' beg' begT' us' nu' ps' np' ++ ((c.kl, listOf kvs.toArray nk) :: (twL t o' us2' nu2' ps2' np2' ++ ((a, listOf v.toArray x) :: (b, listOf u.toArray y) :: rest))))) :
    wpAny (model PySem.Challenge.rw_rh0267_01.row.prog w) (ktrTop dp un gd (Str.ofString "law") lawScope L fa cd cl outer) (execs turnBody (envX (Str.ofString "law") lawScope L fa cd cl))
      (UnrPost g L s I it P Q) (fun _ _ => False) s := by
  obtain ⟨⟨f1, f2, f3, f4⟩, f5, f6, f7, f8⟩ := id dI
  have N0 := sel_news N S
  have OI' : OwnOff [(I, it)] [c.x, c.dx, c.sl, c.pl, c.kl, t.tw, t.sl, t.pl, a, b] := by
    refine off_cons (fun z hz => ?_) off_nil
    simp only [List.mem_cons, List.not_mem_nil, or_false] at hz
    rcases hz with rfl | rfl | rfl | rfl | rfl | rfl | rfl | rfl | rfl | rfl <;> assumption
  have N1 : News g L s.heap (conL c ix ixT st colT beg begT us nu ps np ++ ((c.kl, listOf kvs.toArray nk) :: (twL t o us2 nu2 ps2 np2 ++ ((a, listOf v.toArray x) :: (b, listOf u.toArray y) :: (I, it) :: rest)))) := by
    refine kst_newsOf N0 fun p hp => ?_
    simp only [conL, twL, List.cons_append, List.nil_append, List.mem_cons] at hp ⊢
    grind
  refine wpAny_mono (law_turn (rest := (I, it) :: rest) B F hm1 hm2 hm3 hm4 hm5 X T N1 i1 i2 j1 j2 hd (.tail _ hkk) (.tail _ hgg) hja hjb hj0 hj1 ?off hok htk d1 d2 d3 d4 da db hab hk hkl hK hv hO hu hG hGl hc hC hz hR hS2 hz1 hdp hun) ?post fun _ _ e => e
  case off =>
    intro p hp z hz
    rcases List.mem_cons.mp hp with rfl | hp
    · exact OI' _ (.head _) z hz
    · exact O p hp z hz
  case post =>
    rintro fl s' ⟨rfl, h', tk', u', ixT', colT', beg', begT', us', nu', ps', np', o', ct', us2', nu2', ps2', np2', rfl, F', N', i1', i2', j1', j2', hd'⟩
    refine UnrEnd.intro F' N' (conL c (ix + keys.length + 1) ixT' S2 colT' beg' begT' us' nu' ps' np' ++ ((c.kl, listOf kvs.toArray nk) :: (twL t o' us2' nu2' ps2' np2' ++ ((a, listOf v.toArray x) :: (b, listOf u.toArray y) :: rest)))) ?_ ?_ (next u' ixT' colT' beg' begT' us' nu' ps' np' o' ct' us2' nu2' ps2' np2' i1' i2' j1' j2' hd')
    · intro p hp
      simp only [conL, twL, List.cons_append, List.nil_append, List.mem_cons] at hp ⊢
      grind
    · intro p hp
      simp only [conL, twL, List.cons_append, List.nil_append, List.mem_cons] at hp
      rcases hp with rfl | rfl | rfl | rfl | rfl | rfl | rfl | rfl | rfl | rfl | hp
      · exact f1.symm
      · exact f2.symm
      · exact f3.symm
      · exact f4.symm
      · exact f5.symm
      · exact f6.symm
      · exact f7.symm
      · exact f8.symm
      · exact haI.symm
      · exact hbI.symm
      · exact OI p hp I (.head _)
local macro_rules | `(tactic| walk_at "noTurn") => `(tactic| (fail_if_success (with_reducible show wpAny _ _ (execs (Stmt.If _ _ _ _ :: _) _) _ _ _)))
/-- the law's end -/
def LawEnd (g : Heap) (L : Addr) (s : Shared) (fl : Flow) (s' : Shared) : Prop := ∃ h' tk' m', s' = { s with heap := h', toks := tk' } ∧ Fr g L h' m' ∧ fl = .ret (.bool true)
theorem law_rest {w : World} {loose : List Str} {mean : ExcName → Option Value} {mg mb : Str → Option Value} {dp un : Nat} {gd : Option (List Code)} {outer : List Env} {A₀ : Around} {base g : Heap} {L fa : Addr} {cd : Value} {s : Shared} {m : Str → Option Value} {cl : List (Str × Addr)}
    {c : CS} {t : TS} {ixT colT begT ct : Tok} {o : Obj} {nu np nu2 np2 nk nq n4 n5 x0 x1 y0 y1 : Nat} {kvs : List Value} {k0 k1 pr g0 g1 : List Int} {pvs v0 v1 u0 u1 : List Value} {pp kk gg a0 a1 b0 b1 : Nat}
    (B : Below A₀ base outer g) (F : Fr g L s.heap m) (hm1 : m (Str.ofString "console") = some (.ref c.x)) (hm2 : m (Str.ofString "twin") = some (.ref t.tw)) (hm3 : m (Str.ofString "prompt") = some (.ref pp)) (hm4 : m (Str.ofString "keys") = some (.ref kk)) (hm5 : m (Str.ofString "signs") = some (.ref gg))
    (X : (hd.heap_39 w.params).In g) (T : Top hd.view_39 loose mean mg mb g)
    (N : News g L s.heap (conL c 0 ixT st0 colT 0 begT [] nu [] np ++ ((c.kl, listOf kvs.toArray nk) :: (twL t o [] nu2 [] np2 ++ [(pp, listOf pvs.toArray nq), (kk, listOf #[.ref a0, .ref a1] n4), (gg, listOf #[.ref b0, .ref b1] n5),
      (a0, listOf v0.toArray x0), (a1, listOf v1.toArray x1), (b0, listOf u0.toArray y0), (b1, listOf u1.toArray y1)]))))
    (hok : c.Ok) (htk : t.Ok) (hd : TwD w t st0 ct o) (d1 : c.Off t.tw ∧ c.Off t.sl ∧ c.Off t.pl) (d2 : t.Off c.kl) (dp1 : Apart c t pp) (dk : Apart c t kk) (dg : Apart c t gg) (da0 : Apart c t a0) (da1 : Apart c t a1) (db0 : Apart c t b0) (db1 : Apart c t b1)
    (ndp : pp ≠ kk ∧ pp ≠ gg ∧ pp ≠ a0 ∧ pp ≠ a1 ∧ pp ≠ b0 ∧ pp ≠ b1) (nda : a0 ≠ kk ∧ a0 ≠ gg ∧ a0 ≠ a1 ∧ a0 ≠ b0 ∧ a0 ≠ b1) (ndb : a1 ≠ kk ∧ a1 ≠ gg ∧ a1 ≠ b0 ∧ a1 ≠ b1) (ndc : b0 ≠ kk ∧ b0 ≠ gg ∧ b0 ≠ b1 ∧ b1 ≠ kk ∧ b1 ≠ gg)
    (hpv : IntsAre pvs pr) (hp9 : ∀ k ∈ pr, k ≠ 9) (hp7 : ∀ k ∈ pr, k ≠ 127) (hpl : pr.length ≤ 4)
    (hk : IntsAre kvs (k0 ++ [13] ++ k1 ++ [13])) (hv0 : IntsAre v0 k0) (hv1 : IntsAre v1 k1) (ho0 : OkRow k0) (ho1 : OkRow k1)
    (hu0 : IntsAre u0 g0) (hu1 : IntsAre u1 g1) (hg0 : ∀ x ∈ g0, Osign x) (hg1 : ∀ x ∈ g1, Osign x) (hl0 : g0.length ≤ 4) (hl1 : g1.length ≤ 4) (hdp : dp + 15 < recursionLimit) (hun : un + 2000 < cLine) :
    wpAny (model PySem.Challenge.rw_rh0267_01.row.prog w) (ktrTop dp un gd (Str.ofString "law") lawScope L fa cd cl outer) (execs (lawBody.drop 4) (envX (Str.ofString "law") lawScope L fa cd cl))
      (LawEnd g L s) (fun _ _ => False) s := by
  have em : m = fun y => if y = Str.ofString "console" then some (.ref c.x) else if y = Str.ofString "twin" then some (.ref t.tw) else if y = Str.ofString "prompt" then some (.ref pp) else if y = Str.ofString "keys" then some (.ref kk) else if y = Str.ofString "signs" then some (.ref gg) else m y := by
    funext y
    by_cases h1 : y = Str.ofString "console"
    · simp only [h1, if_true]; exact hm1
    · simp only [if_neg h1]
      by_cases h2 : y = Str.ofString "twin"
      · simp only [h2, if_true]; exact hm2
      · simp only [if_neg h2]
        by_cases h3 : y = Str.ofString "prompt"
        · simp only [h3, if_true]; exact hm3
        · simp only [if_neg h3]
          by_cases h4 : y = Str.ofString "keys"
          · simp only [h4, if_true]; exact hm4
          · simp only [if_neg h4]
            by_cases h5 : y = Str.ofString "signs"
            · simp only [h5, if_true]; exact hm5
            · simp only [if_neg h5]
  rw [em] at F
  clear em hm1 hm2 hm3 hm4 hm5
  obtain ⟨t1, t2, t3⟩ := id htk
  have nz := cs_ne hok
  have z11 : @Ne Nat t.sl t.tw := Nat.ne_of_gt t1
  have z13 : @Ne Nat t.pl t.sl := Nat.ne_of_gt t2
  have z12 : @Ne Nat t.pl t.tw := Nat.ne_of_gt (Nat.lt_trans t1 t2)
  obtain ⟨⟨z1, z2, z3, z4⟩, z5, z6, z7, z8, z9, z10⟩ := nz
  obtain ⟨dt1, dt2, dt3⟩ := d1
  have kx := keyed_two ho0 ho1 rfl
  have kx0 := kx.1
  have kx1 := kx.2
  have hkl : (k0 ++ [13] ++ k1 ++ [13]).length ≤ 1000 := by have := ho0.1; have := ho1.1; simp only [List.length_append, List.length_cons, List.length_nil]; omega
  generalize k0 ++ [13] ++ k1 ++ [13] = ks at *
  obtain ⟨sa, hsa⟩ : ∃ x, x = st0 := ⟨_, rfl⟩
  rw [← hsa] at N hd
  have za : Small sa 900000 := hsa ▸ small0
  have ca : sa.col = 0 := by rw [hsa]; rfl
  have cu1 : IntsAre ([] : List Value) sa.shown := by rw [hsa]; exact .nil
  have cu2 : IntsAre ([] : List Value) sa.printed := by rw [hsa]; exact .nil
  clear hsa
  obtain ⟨S0, hS0⟩ : ∃ x, x = puts sa pr := ⟨_, rfl⟩
  have hb0 : 0 ≤ S0.col ∧ S0.col ≤ 4 ∧ Small S0 899990 := by
    rw [hS0]
    have := puts_col (st := sa) (os := pr) (Int.le_of_eq ca.symm)
    exact ⟨this.1, by omega, Small.puts (Small.mono za (by omega))⟩
  obtain ⟨hS0a, hS0b, hS0z⟩ := hb0
  obtain ⟨S1, hS1⟩ : ∃ x, x = rowP S0 k0 := ⟨_, rfl⟩
  have hb1 := rowP_bounds (B := 4) (R := 800000) hS0a hS0b (by omega) ho0 (Small.mono hS0z (by decide))
  rw [← hS1] at hb1
  obtain ⟨hS1a, hS1b, hS1z⟩ := hb1
  have R0 : RowIs S0 k0 (runP S0 S0.col [] k0).2.2 S1 := ⟨rfl, hS1⟩
  generalize (runP S0 S0.col [] k0).2.2 = q0 at R0
  obtain ⟨S2, hS2⟩ : ∃ x, x = showsP S1 g0 := ⟨_, rfl⟩
  have hb2 := showsP_col (os := g0) hS1a
  have hS2z : Small S2 700000 := by rw [hS2]; exact Small.showsP (Small.mono hS1z (by omega))
  rw [← hS2] at hb2
  obtain ⟨hS2a, hS2b⟩ := hb2
  obtain ⟨S3, hS3⟩ : ∃ x, x = rowP S2 k1 := ⟨_, rfl⟩
  have hb3 := rowP_bounds (B := 116) (R := 600000) hS2a (by omega) (by omega) ho1 (Small.mono hS2z (by decide))
  rw [← hS3] at hb3
  obtain ⟨hS3a, hS3b, hS3z⟩ := hb3
  have R1 : RowIs S2 k1 (runP S2 S2.col [] k1).2.2 S3 := ⟨rfl, hS3⟩
  generalize (runP S2 S2.col [] k1).2.2 = q1 at R1
  clear hS1 hS3
  have dt1' := dt1
  have dt2' := dt2
  have dt3' := dt3
  have d2' := d2
  simp only [CS.Off, TS.Off] at dt1 dt2 dt3 d2
  obtain ⟨⟨e1, e2, e3, e4⟩, e5, e6, e7, e8⟩ := id dp1
  obtain ⟨⟨e9, e10, e11, e12⟩, e13, e14, e15, e16⟩ := id dk
  obtain ⟨⟨e17, e18, e19, e20⟩, e21, e22, e23, e24⟩ := id dg
  obtain ⟨⟨e25, e26, e27, e28⟩, e29, e30, e31, e32⟩ := id da0
  obtain ⟨⟨e33, e34, e35, e36⟩, e37, e38, e39, e40⟩ := id da1
  obtain ⟨⟨e41, e42, e43, e44⟩, e45, e46, e47, e48⟩ := id db0
  obtain ⟨⟨e49, e50, e51, e52⟩, e53, e54, e55, e56⟩ := id db1
  obtain ⟨n1, n2, n3, n4, n5, n6⟩ := id ndp
  obtain ⟨n7, n8, n9, n10, n11⟩ := id nda
  obtain ⟨n12, n13, n14, n15⟩ := id ndb
  obtain ⟨n16, n17, n18, n19, n20⟩ := id ndc
  obtain ⟨w1, w2, w3, w4⟩ := dt1
  obtain ⟨w5, w6, w7, w8⟩ := dt2
  obtain ⟨w9, w10, w11, w12⟩ := dt3
  obtain ⟨w13, w14, w15⟩ := d2
  dsimp only [conL, twL, List.cons_append, List.nil_append] at N
  unfold TwD at hd
  conv => pattern (occs := *) lawScope
          all_goals whnf
  conv => enter [3, 1]; whnf
  with_reducible show wpAny _ _ _ _ _ _
  k_fold
  repeat' (first
    | ((with_reducible show wpAny _ _ (call (Value.ref 84) _) _ _ _); walk_at "mycall")
    | ((with_reducible show wpAny _ _ (call (Value.ref 149) _) _ _ _); walk_at "mycall")
    | (walk_at "noCall"; walk_at "noTurn"; walk_at "one") | fail "n")
  (rename Fr _ _ _ _ => F1); (rename News _ _ _ _ => N1)
  (refine' law_turnU (a := a0) (b := b0) (ka := [.ref a0, .ref a1]) (ga := [.ref b0, .ref b1]) (I := ?I) (it := ?it) ?B F1 ?hm1 ?hm2 ?hm3 ?hm4 ?hm5 ?X ?T N1 ?S ?i1 ?i2 ?j1 ?j2 ?hd ?hkk ?hgg ?hja ?hjb ?hj0 ?hj1 ?O ?OI hok htk dt1' dt2' dt3' d2' da0 db0 ?dI ?hab ?haI ?hbI hk hkl kx0 hv0 ho0 hu0 hg0 hl0 hS0a (by omega) ?hz R0 hS2 ?hz1 ?hdp ?hun ?next)
  case B => k_asm
  case hm1 => exact rfl
  case hm2 => exact rfl
  case hm3 => exact rfl
  case hm4 => exact rfl
  case hm5 => exact rfl
  case X => k_asm
  case T => k_asm
  case S => walk_at "sel"
  case i1 => assumption
  case i2 => assumption
  case j1 => assumption
  case j2 => assumption
  case hd => assumption
  case hkk => k_mem
  case hgg => k_mem
  case hja => exact rfl
  case hjb => exact rfl
  case hj0 => decide
  case hj1 => decide
  case O => walk_at "off"
  case OI => walk_at "off"
  case dI => exact ⟨⟨by walk_at "ne1", by walk_at "ne1", by walk_at "ne1", by walk_at "ne1"⟩, by walk_at "ne1", by walk_at "ne1", by walk_at "ne1", by walk_at "ne1"⟩
  case hab => walk_at "ne1"
  case haI => walk_at "ne1"
  case hbI => walk_at "ne1"
  case hz => exact Small.mono hS0z (by decide)
  case hz1 => exact Small.mono hS1z (by decide)
  case hdp => walk_at "room"
  case hun => walk_at "room"
  case next =>
    clear F1 N1
    intro u9 ixT9 colT9 beg9 begT9 us9 nu9 ps9 np9 o9 ct9 us8 nu8 ps8 np8 i19 i29 j19 j29 hd9
    dsimp only [conL, twL, List.cons_append, List.nil_append]
    repeat' (first
      | (walk_at "noCall"; walk_at "noTurn"; walk_at "one") | fail "n")
    (rename Fr _ _ _ _ => F1); (rename News _ _ _ _ => N1)
    refine' law_turnU (a := a1) (b := b1) (ka := [.ref a0, .ref a1]) (ga := [.ref b0, .ref b1]) (S2 := showsP S3 g1) (I := ?I2) (it := ?it2) ?B ?F ?hm1 ?hm2 ?hm3 ?hm4 ?hm5 ?X ?T ?N ?S ?i1 ?i2 ?j1 ?j2 ?hd ?hkk ?hgg ?hja ?hjb ?hj0 ?hj1 ?O ?OI hok htk dt1' dt2' dt3' d2' da1 db1 ?dI ?hab ?haI ?hbI hk hkl kx1 hv1 ho1 hu1 hg1 hl1 hS2a (by omega) ?hz R1 rfl ?hz1 ?hdp ?hun ?next
    case B => k_asm
    case F => exact F1
    case N => exact N1
    case hm1 => exact rfl
    case hm2 => exact rfl
    case hm3 => exact rfl
    case hm4 => exact rfl
    case hm5 => exact rfl
    case X => k_asm
    case T => k_asm
    case S => walk_at "sel"
    case i1 => assumption
    case i2 => assumption
    case j1 => assumption
    case j2 => assumption
    case hd => assumption
    case hkk => k_mem
    case hgg => k_mem
    case hja => exact rfl
    case hjb => exact rfl
    case hj0 => decide
    case hj1 => decide
    case O => walk_at "off"
    case OI => walk_at "off"
    case dI => exact ⟨⟨by walk_at "ne1", by walk_at "ne1", by walk_at "ne1", by walk_at "ne1"⟩, by walk_at "ne1", by walk_at "ne1", by walk_at "ne1", by walk_at "ne1"⟩
    case hab => walk_at "ne1"
    case haI => walk_at "ne1"
    case hbI => walk_at "ne1"
    case hz => exact Small.mono hS2z (by decide)
    case hz1 => exact Small.mono hS3z (by decide)
    case hdp => walk_at "room"
    case hun => walk_at "room"
    case next =>
      clear F1 N1
      intro v9 ixT6 colT6 beg6 begT6 us6 nu6 ps6 np6 o6 ct6 us7 nu7 ps7 np7 i16 i26 j16 j26 hd6
      dsimp only [conL, twL, List.cons_append, List.nil_append]
      repeat' (first
        | (walk_at "noCall"; walk_at "noTurn"; walk_at "one") | fail "n")
      (rename Fr _ _ _ _ => F6)
      exact ⟨_, _, _, rfl, F6, rfl⟩
local macro_rules | `(tactic| walk_at "noShow") => `(tactic| (fail_if_success (with_reducible show wpAny _ _ (execs (Stmt.Expr _ _ :: Stmt.Expr _ _ :: Stmt.For _ _ _ _ _ :: _) _) _ _ _)))
local macro_rules | `(tactic| walk_at "goM") => `(tactic| repeat' (first
  | (walk_at "isCall"; walk_at "mycall")
  | ((with_reducible refine compSrc_id ?_); walk_at "draw")
  | ((with_reducible show wpAny _ _ (call (Value.ref 31) _) _ _ _); walk_at "one")
  | (walk_at "noShow"; walk_at "noCall"; walk_at "noWhile"; walk_at "noComp"; walk_at "noSign"; walk_at "one")
  | fail "no step"))
theorem okrow_of {rows : List Int} {k : Int} (h : (rows.length : Int) = k) (hk : k < 11) (hr : ∀ x ∈ rows, Okey x) : OkRow rows := ⟨by omega, hr⟩
theorem four_of {rows : List Int} {k : Int} (h : (rows.length : Int) = k) (hk : k < 5) : rows.length ≤ 4 := by omega
theorem prompt_ok {v : Int} (h : v < 5) : (∀ k ∈ (List.replicate v.toNat [(62 : Int)]).flatten, k ≠ 9) ∧ (∀ k ∈ (List.replicate v.toNat [(62 : Int)]).flatten, k ≠ 127) ∧ (List.replicate v.toNat [(62 : Int)]).flatten.length ≤ 4 := by
  rw [flat_rep]
  refine ⟨fun k hk => ?_, fun k hk => ?_, ?_⟩
  · rw [List.eq_of_mem_replicate hk]; decide
  · rw [List.eq_of_mem_replicate hk]; decide
  · rw [List.length_replicate]; omega
def NeUp (d x : Nat) : Prop := ∀ a, a < d → @Ne Nat a x
theorem NeUp.at {d x a : Nat} (h : NeUp d x) (l : a < d) : @Ne Nat a x := h a l
local macro_rules | `(tactic| walk_at "lt1") => `(tactic| first | assumption | exact lt_all (by assumption) (by k_mem))
local macro_rules | `(tactic| walk_at "ne2") => `(tactic| first | assumption | exact Ne.symm (by assumption) | exact Nat.ne_of_lt (by assumption) | exact Nat.ne_of_gt (by assumption) | exact Nat.ne_of_lt (lt_all (by assumption) (by k_mem)) | exact Nat.ne_of_gt (lt_all (by assumption) (by k_mem)) | exact ne_all (by assumption) (by k_mem) | exact Ne.symm (ne_all (by assumption) (by k_mem)) | exact NeUp.at (by assumption) (lt_all (by assumption) (by k_mem)) | exact Ne.symm (NeUp.at (by assumption) (lt_all (by assumption) (by k_mem))))
local macro_rules | `(tactic| walk_at "ne1") => `(tactic| first | walk_at "ne2" | exact Nat.ne_of_lt (Nat.lt_trans (lt_all (by assumption) (by k_mem)) (by assumption)) | exact Nat.ne_of_gt (Nat.lt_trans (lt_all (by assumption) (by k_mem)) (by assumption)))
local macro_rules | `(tactic| walk_at "neA2") => `(tactic| first | (refine' And.intro ?na ?nb; (case na => walk_at "neA2"); (case nb => walk_at "neA2")) | walk_at "ne2")
local macro_rules | `(tactic| walk_at "apart") => `(tactic| (refine' ⟨?ap1, ?ap2, ?ap3⟩; (case ap1 => (dsimp only [CS.Off]; walk_at "neA2")); (case ap2 => walk_at "ne2"); (case ap3 => (dsimp only [TS.Off]; walk_at "neA2"))))
/-- of the ledger what the console's statement and the rest need -/
theorem shrink {w : World} {g h : Heap} {L : Addr} {m : Str → Option Value} {led rest : List (Addr × Obj)} {kk gg pp tw sl pl a0 a1 b0 b1 n4 n5 : Nat} {o o0 o1 o2 o3 o4 o5 o6 : Obj} {k1 k2 k3 k4 : Tok} {v3 v4 : Value}
    (F : Fr g L h m) (N : News g L h led) (e1 : m (Str.ofString "keys") = some (.ref kk)) (e2 : m (Str.ofString "signs") = some (.ref gg)) (e3 : m (Str.ofString "prompt") = some (.ref pp)) (e4 : m (Str.ofString "twin") = some (.ref tw))
    (hd : Obj.IsDictOf (PySem.strKind PySem.Challenge.rw_rh0267_01.row.prog w) o (strPairs [(Value.str (Str.ofString "shown") k1, Value.ref sl), (Value.str (Str.ofString "printed") k2, Value.ref pl), (Value.str (Str.ofString "is_on") k3, v3), (Value.str (Str.ofString "column") k4, v4)]))
    (S : Sel led [(kk, listOf #[.ref a0, .ref a1] n4), (gg, listOf #[.ref b0, .ref b1] n5), (a0, o0), (a1, o1), (b0, o2), (b1, o3), (pp, o4), (tw, o), (sl, o5), (pl, o6)] rest) :
    News g L h [(kk, listOf #[.ref a0, .ref a1] n4), (gg, listOf #[.ref b0, .ref b1] n5), (a0, o0), (a1, o1), (b0, o2), (b1, o3), (pp, o4), (tw, o), (sl, o5), (pl, o6)] := fun p hp => N p (S.mem p (List.mem_append_left _ hp))
local macro_rules | `(tactic| walk_at "noCon") => `(tactic| (fail_if_success (with_reducible show wpAny _ _ (execs (Stmt.Assign _ _ _ :: Stmt.Expr _ _ :: Stmt.Expr _ _ :: _) _) _ _ _)))
local macro_rules | `(tactic| walk_at "goA") => `(tactic| repeat' (first
  | (walk_at "isCall"; walk_at "mycall")
  | ((with_reducible refine compSrc_id ?_); walk_at "draw")
  | (walk_at "noCon"; walk_at "noCall"; walk_at "noWhile"; walk_at "noComp"; walk_at "one")
  | fail "no step"))
theorem law_main {w : World} {loose : List Str} {mean : ExcName → Option Value} {mg mb : Str → Option Value} {dp un : Nat} {gd : Option (List Code)} {outer : List Env} {A₀ : Around} {base g : Heap} {L fa : Addr} {cd : Value} {s : Shared} {m : Str → Option Value} {sl : Addr} {vs : List Value} {ns : List Int} {oc : Obj} {v0 : Option Value}
    (B : Below A₀ base outer g) (F : Fr g L s.heap (fun y => if y = Str.ofString "script" then some (.ref sl) else m y)) (X : (hd.heap_39 w.params).In g) (N : News g L s.heap [(L + 1, oc)]) (hoc : oc.data = .cell v0) (T : Top hd.view_39 loose mean mg mb g)
    (hL : g.IsList sl vs.toArray) (hI : IntsAre vs ns) (hn : ns.length ≤ 63) (hdp : dp + 20 < recursionLimit) (hun : un + 3000 < cLine) :
    wpAny (model PySem.Challenge.rw_rh0267_01.row.prog w) (ktrTop dp un gd (Str.ofString "law") lawScope L fa cd [(Str.ofString "rope", L + 1)] outer) (execs lawBody (envX (Str.ofString "law") lawScope L fa cd [(Str.ofString "rope", L + 1)]))
      (LawEnd g L s) (fun _ _ => False) s := by
  conv => enter [3, 1]; whnf
  conv => pattern (occs := *) lawScope
          all_goals whnf
  rw [show [(L + 1, oc)] = [(L + 1, oc)] from rfl] at N
  have b0 : Bd 0 0 := ⟨Int.le_refl 0, Int.le_refl 0⟩
  have htk : (List.take 40 ns).length ≤ 1000 := by rw [List.length_take]; omega
  with_reducible show wpAny _ _ _ _ _ _
  k_fold
  walk_at "goA"
  (rename Fr _ _ _ _ => F1); (rename News _ _ _ _ => N1); (rename Obj.IsDictOf _ _ (strPairs [_, _, _, _]) => hd1)
  have N2 := shrink F1 N1 rfl rfl rfl rfl hd1 (by walk_at "sel")
  clear N1
  walk_at "goM"
  (rename Fr _ _ _ _ => F1); (rename News _ _ _ _ => N1)
  (rename Obj.IsDictOf _ _ (strPairs [_, _, _, _]) => hd1)
  (rename IntsAre _ (_ ++ [13] ++ _ ++ [13]) => hks)
  (rename (∀ x ∈ _, Osign x) => gs1)
  (rename (∀ x ∈ _, Okey x) => ks1)
  (rename @LT.lt Nat _ _ _ => lx)
  have hup : NeUp _ _ := fun a h => Nat.ne_of_lt (Nat.lt_trans h lx)
  refine' law_rest (c := ⟨?cx, ?cdx, ?ckl, ?csl, ?cpl, ?chk, ?cha, ?chs, ?chc, ?chb, ?chp, ?chi, ?ctk, ?cta, ?cts, ?ctc, ?ctb, ?ctp, ?cti⟩) (t := ⟨?ttw, ?tsl, ?tpl⟩) ?B ?F ?hm1 ?hm2 ?hm3 ?hm4 ?hm5 ?X ?T ?N ?hok ?htk ?hd2 ?d1 ?d2 ?dp ?dk ?dg ?da0 ?da1 ?db0 ?db1 ?ndp ?nda ?ndb ?ndc ?hpv ?hp9 ?hp7 ?hpl hks ?hv0 ?hv1 ?ho0 ?ho1 ?hu0 ?hu1 ?hg0 ?hg1 ?hl0 ?hl1 ?hdp ?hun
  case hd2 => exact hd1
  case F => exact F1
  case B => exact B
  case hm1 => exact rfl
  case hm2 => exact rfl
  case hm3 => exact rfl
  case hm4 => exact rfl
  case hm5 => exact rfl
  case X => exact X
  case T => exact T
  case N =>
    refine kst_newsOf N1 ?_
    dsimp only [conL, twL, List.cons_append, List.nil_append]
    walk_at "sub"
  case hok => exact ⟨by walk_at "lt1", by walk_at "lt1", by walk_at "lt1", by walk_at "lt1"⟩
  case htk => exact ⟨by walk_at "lt1", by walk_at "lt1", by assumption⟩
  case hv0 => assumption
  case hv1 => assumption
  case hu0 => assumption
  case hu1 => assumption
  case hpv => assumption
  case hp9 => exact (prompt_ok (by assumption)).1
  case hp7 => exact (prompt_ok (by assumption)).2.1
  case hpl => exact (prompt_ok (by assumption)).2.2
  case ho0 => exact okrow_of (by assumption) (by assumption) (by assumption)
  case ho1 => exact okrow_of (by assumption) (by assumption) (by assumption)
  case hg0 => assumption
  case hg1 => assumption
  case hl0 => exact four_of (by assumption) (by assumption)
  case hl1 => exact four_of (by assumption) (by assumption)
  case hdp => exact room_0 hdp (by decide)
  case hun => exact room_0 hun (by decide)
  case d1 => (dsimp only [CS.Off]; walk_at "neA2")
  case d2 => dsimp only [TS.Off]; walk_at "neA2"
  case dp => walk_at "apart"
  case dk => walk_at "apart"
  case dg => walk_at "apart"
  case da0 => walk_at "apart"
  case da1 => walk_at "apart"
  case db0 => walk_at "apart"
  case db1 => walk_at "apart"
  case ndp => walk_at "neA2"
  case nda => walk_at "neA2"
  case ndb => walk_at "neA2"
  case ndc => walk_at "neA2"
end Mine
set_option maxRecDepth 100000 in
set_option maxHeartbeats 8000000 in
theorem PySem.Challenge.cw_rh0267_01_holds : PySem.Challenge.rw_rh0267_01.Holds := by
  refine Mine.hd ?_
  k_go0
  (rename Fr _ _ _ _ => F)
  (rename News _ _ _ _ => N)
  (rename Below _ _ _ _ => B)
  (rename IntsAre _ _ => hI)
  (rename (Heap.IsList _ _ _) => hL)
  (rename (Obj.data _ = _) => hoc)
  (rename (¬ (_ < ((List.length _ : Nat) : Int))) => hn)
  (rename Top _ _ _ _ _ _ => T)
  (rename ((Mine.hd.heap_39 _).In _) => X)
  refine' wpAny_mono (Mine.law_main (m := fun _ => none) (vs := ?vs) (sl := ?sl) (ns := ?ns) ?B ?F ?X ?N ?hoc ?T ?hL ?hI ?hn ?hdp ?hun) ?post ?err
  case B => exact B
  case X => exact X
  case N => exact N
  case hoc => exact hoc
  case T => exact T
  case hL => exact hL
  case hI => exact hI
  case hn => omega
  case F => exact F
  case hdp => show 1 + claimMargin + 1 + 20 < recursionLimit; decide
  case hun => decide
  case err => exact fun _ _ h => h.elim
  case post =>
    clear F N
    rintro fl s' ⟨h', tk', m', rfl, F', rfl⟩
    dsimp only
    wrow_close
