import PyProof.Rows.All
import Wide.All
import OpenK.AllK
import Wide.FinOn
import PySem.Challenge.RW_sa0563_01
open PySem PySem.W PyProof.Rows PySem.Spec PySem.Calls
set_option Elab.async false
set_option rowWalk.seconds 0
set_option compiler.extract_closed false
set_option maxRecDepth 100000
set_option maxHeartbeats 8000000
set_option linter.unusedVariables false
namespace Mine
set_option synthInstance.maxSize 1 in
open_top hd for PySem.Challenge.rw_sa0563_01

/-- an entry that is turned stands apart from the rest of the ledger -/
theorem updF_rest {d : Addr} {o : Obj} {news : List (Addr × Obj)} {g : Obj → List (Addr × Obj)} (U : UpdF d o news g) :
    (d, o) ∈ news ∧ ∀ o' : Obj, ∀ p ∈ g o', p = (d, o') ∨ (p ∈ news ∧ p.1 ≠ d) := by
  obtain ⟨pre, post, rfl, hg, a, b⟩ := U.split
  refine ⟨List.mem_append.mpr (.inr (.head _)), ?_⟩
  intro o' p hp
  rw [hg] at hp
  rcases List.mem_append.mp hp with h | h
  · exact .inr ⟨List.mem_append.mpr (.inl h), a p h⟩
  · rcases List.mem_cons.mp h with h | h
    · exact .inl h
    · exact .inr ⟨List.mem_append.mpr (.inr (.tail _ h)), b p h⟩
theorem news_sub {h₀ h : Heap} {L : Addr} {news news' : List (Addr × Obj)} (N : News h₀ L h news) (k : ∀ p ∈ news', p ∈ news) : News h₀ L h news' := fun p hp => N p (k p hp)

/-- all but the objects of us stand as they stood -/
def Kept (us : List Addr) (h h' : Heap) : Prop := ∀ x o, h.get? x = some o → x ∉ us → h'.get? x = some o

theorem kept_of {g h h' h₀ : Heap} {L L' : Addr} {m' : Str → Option Value} {news news' : List (Addr × Obj)} {us : List Addr} (G : GSub h g (news.map (·.1))) (F : Fr g L' h' m') (N : News h₀ L h news) (N' : News g L' h' news')
    (hs : ∀ p ∈ news, p.1 ∈ us ∨ p ∈ news') : Kept us h h' := by
  intro x o e hx
  by_cases hb : x ∈ news.map (·.1)
  · obtain ⟨p, hp, rfl⟩ := List.mem_map.mp hb
    rcases hs p hp with h | h
    · exact absurd h hx
    · have h1 := (N p hp).1
      rw [e] at h1
      cases h1
      exact (N' p h).1
  · exact F.keep x o (G x o e hb)

/-- a call's ledger, seen from the whole ledger -/
theorem news_frame {h₀ h h' : Heap} {L : Addr} {news new1 : List (Addr × Obj)} {us : List Addr} (N : News h₀ L h news) (N1 : News h₀ L h' new1) (K : Kept us h h') (news' : List (Addr × Obj))
    (hs : ∀ p ∈ news', p ∈ new1 ∨ (p ∈ news ∧ p.1 ∉ us)) : News h₀ L h' news' := fun p hp => by
  rcases hs p hp with h1 | ⟨h1, h2⟩
  · exact N1 p h1
  · exact ⟨K _ _ (N p h1).1 h2, (N p h1).2⟩

theorem one_turned {h₀ h h' : Heap} {L d : Addr} {o o' : Obj} {news new1 : List (Addr × Obj)} {g : Obj → List (Addr × Obj)} (N : News h₀ L h news) (U : UpdF d o news g) (N1 : News h₀ L h' new1) (hm : (d, o') ∈ new1) (K : Kept [d] h h') : News h₀ L h' (g o') :=
  news_frame N N1 K _ fun p hp => by
    rcases (updF_rest U).2 o' p hp with rfl | ⟨h1, h2⟩
    · exact .inl hm
    · exact .inr ⟨h1, by simpa using h2⟩

section
variable {prog : Program} {w : World} {A₀ A : Around} {s : Shared} {base h₀ : Heap} {outer : List Env} {L : Addr} {m : Str → Option Value} {env : Env} {news : List (Addr × Obj)} {K : Frag} {p : Program} {loose : List Str} {mean : ExcName → Option Value} {mg mb : Str → Option Value}
  {R : Result → Shared → Prop} {name qual : Str} {params : Arguments} {body : List Stmt} {scope : Scope} {dV kV doc pm cdv ct oc : Value} {an od : Option Addr} {osl : Array (Option Value)} {f : Addr} {args : Args} {binds : List (Str × Value)}
/-- entering a def that has cells: what is no entry of the ledger stands in the ground -/
theorem enter_cells (B : Below A₀ base outer h₀) (F : Fr h₀ L s.heap m) (X₀ : K.In h₀) (N : News h₀ L s.heap news) (T : Top p loose mean mg mb h₀) (hA : A.frames = some (env :: outer)) (hf : env.frame = some L) (hke : env.scope.kind = .function)
    (ho : K.lookup f = some ⟨oc, od, .func (fnOf name qual params body scope dV kV doc pm an cdv ct), osl⟩) (hcd : codeIn K cdv qual = true) (hroom : A.depth < recursionLimit)
    (hbind : BindsTo s (fnOf name qual params body scope dV kV doc pm an cdv ct) args binds) (hkind : (binds.all fun y => scope.names.lookup y.1 == some .local || scope.names.lookup y.1 == some .cell) = true)
    (hnd : ((cellsFrom 0 scope.names []).map (·.1)).Nodup)
    (h : ∀ g L' h₁ tk cells, Fr h₀ L g m → Fr g L' h₁ (bindL (envOfC qual scope L' f cdv).kindOf binds fun _ => none) → News g L' h₁ (cells ++ news) →
      CellsAre (bindC (envOfC qual scope L' f cdv).kindOf binds fun _ => none) (cellsFrom (L' + 1) scope.names []) cells → Below A base (env :: outer) g → K.In g → Top p loose mean mg mb g → (∀ p ∈ news, p.1 < L') → GSub s.heap g (news.map (·.1)) →
      wpAny (model prog w) (A.deeper (envOfC qual scope L' f cdv)) (execs body (envOfC qual scope L' f cdv))
        (fun fl s' => LeaveK h₀ L m g R (match fl with | .ret v => v | _ => .none) s')
        (fun e s' => wpAny (model prog w) (A.deeper (envOfC qual scope L' f cdv)) (leaving (envOfC qual scope L' f cdv) e) (fun _ s'' => R (.error e) s'') (fun e' s'' => R (.error e') s'') s')
        { s with heap := h₁, toks := tk })
    (hco : scope.isCoroutine = false) (hgen : scope.isGenerator = false) (hk : scope.kind = .function) : codeAny (model prog w) A (.call (.ref f) args) R s := by
  obtain ⟨FG, BG, st, lv⟩ := groundX (R := R) B F N hA hf hke
  have X := X₀.keeps F.keep
  refine codeAny_call_function hroom (X _ _ ho) rfl hco hgen rfl (codeRec_of X hcd) (hbind _ _ _ _ ?_)
  refine wpAny_newFunctionEnv_cells hk (kindsX hkind _) fun env' he s' x => ?_
  subst he
  obtain ⟨h₁, tk, rfl, _⟩ := x.done
  have up := x.toInCall.keep
  obtain ⟨cells, NC, Y⟩ := Cl.news (h₀ := s.heap) (Nat.le_refl _) fun n c hm => ⟨x.cell n c (lookup_of_mem_nodup (cellsFrom_names scope.names 0 (s.heap.objs.size + 1) [] [] rfl ▸ hnd) hm), x.above n c hm⟩
  have lt : ∀ q ∈ news, q.1 < s.heap.objs.size := fun q hq => Heap.lt_size (N q hq).1
  have NN : News (hideAll s.heap (news.map (·.1))) s.heap.objs.size h₁ (cells ++ news) := fun q hq => by
    rcases List.mem_append.mp hq with hq | hq
    · refine ⟨(NC q hq).1, (NC q hq).2.1, ?_⟩
      cases e : (hideAll s.heap (news.map (·.1))).get? q.1 with
      | none => rfl
      | some o => have z := of_hideAll _ e; rw [(NC q hq).2.2] at z; cases z
    · exact ⟨up _ _ (N q hq).1, Nat.ne_of_lt (lt q hq), hideAll_none _ (List.mem_map_of_mem hq)⟩
  refine ⟨(T.nolimit.keeps F.keep).keeps up, codeAny_func (wpAny_mono (h _ s.heap.objs.size h₁ tk cells FG ⟨x.toInCall.ns, fun b o e => up b o (of_hideAll _ e), Nat.le_of_eq (hideAll_size _ _)⟩ NN Y BG (X₀.keeps st) (T.keeps st) lt (fun b o e n => hideAll_get _ e n)) (fun fl s' hl => lv _ _ hl) fun _ _ y => y)⟩
end
abbrev Led := List (Addr × Obj)
@[reducible] def tl1 (l : Led) : Led := match l with
  | [] => []
  | _ :: r => r
@[reducible] def hd1 (l : Led) : Option (Addr × Obj) := match l with
  | [] => none
  | q :: _ => some q
@[reducible] def tl8 (l : Led) : Led := tl1 (tl1 (tl1 (tl1 (tl1 (tl1 (tl1 (tl1 l)))))))
@[reducible] def some1 (l : Led) : Bool := match l with
  | [] => false
  | _ :: _ => true
theorem tl1_in {q : Addr × Obj} : ∀ {l : Led}, q ∈ tl1 l → q ∈ l
  | [], h => h
  | _ :: _, h => .tail _ h
theorem mem0 {q : Addr × Obj} : ∀ {l : Led}, hd1 l = some q → q ∈ l
  | [], h => nomatch h
  | _ :: _, h => by cases h; exact .head _
theorem mem1 {q : Addr × Obj} {l : Led} (h : hd1 (tl1 l) = some q) : q ∈ l := tl1_in (mem0 h)
theorem mem2 {q : Addr × Obj} {l : Led} (h : hd1 (tl1 (tl1 l)) = some q) : q ∈ l := tl1_in (mem1 h)
theorem mem3 {q : Addr × Obj} {l : Led} (h : hd1 (tl1 (tl1 (tl1 l))) = some q) : q ∈ l := tl1_in (mem2 h)
theorem mem4 {q : Addr × Obj} {l : Led} (h : hd1 (tl1 (tl1 (tl1 (tl1 l)))) = some q) : q ∈ l := tl1_in (mem3 h)
theorem mem5 {q : Addr × Obj} {l : Led} (h : hd1 (tl1 (tl1 (tl1 (tl1 (tl1 l))))) = some q) : q ∈ l := tl1_in (mem4 h)
theorem mem6 {q : Addr × Obj} {l : Led} (h : hd1 (tl1 (tl1 (tl1 (tl1 (tl1 (tl1 l)))))) = some q) : q ∈ l := tl1_in (mem5 h)
theorem mem7 {q : Addr × Obj} {l : Led} (h : hd1 (tl1 (tl1 (tl1 (tl1 (tl1 (tl1 (tl1 l))))))) = some q) : q ∈ l := tl1_in (mem6 h)
theorem skip8 {q : Addr × Obj} {l : Led} (_ : some1 (tl8 l) = true) (h : q ∈ tl8 l) : q ∈ l := tl1_in (tl1_in (tl1_in (tl1_in (tl1_in (tl1_in (tl1_in (tl1_in h)))))))
/-- the ledger and the frame's map, each under a name of its own: what follows mentions the name alone -/
theorem foldNews {h₀ h : Heap} {L : Addr} {news : List (Addr × Obj)} {P : Prop} (N : News h₀ L h news) (k : let n := news; News h₀ L h n → P) : P := k N
theorem foldFr {h₀ h : Heap} {L : Addr} {m : Str → Option Value} {P : Prop} (F : Fr h₀ L h m) (k : let m' := m; Fr h₀ L h m' → P) : P := k F
/-- a goal at which the script's own alternatives are asked -/
def Stop (P : Prop) : Prop := P
theorem stop {P : Prop} (h : Stop P) : P := h
theorem go {P : Prop} (h : P) : Stop P := h
theorem stopCall {P : Nat → Prop} {M : Model} {A : Around} {n : Nat} {args : List Value} {Q E : Value → Shared → Prop} {s : Shared} (_ : P n) (h : Stop (wpAny M A (call (.ref n) args) Q E s)) : wpAny M A (call (.ref n) args) Q E s := h
theorem stopIf {M : Model} {A : Around} {env : Env} {a b a' b' : Expr} {c : _} {d : _} {e : _} {f : _} {g : _} {h : _} {i : _} {c' : _} {j : _} {Q E : Value → Shared → Prop} {s : Shared} (q : Stop (wpAny M A (eval (Expr.IfExp (Expr.Compare (Expr.Subscript a b c) d e f) (Expr.Tuple g h i) (Expr.Subscript a' b' c') j) env) Q E s)) : wpAny M A (eval (Expr.IfExp (Expr.Compare (Expr.Subscript a b c) d e f) (Expr.Tuple g h i) (Expr.Subscript a' b' c') j) env) Q E s := q
theorem stopLc {M : Model} {A : Around} {env : Env} {a : Expr} {b : _} {c : _} {d : _} {e : _} {f : _} {g : _} {h : _} {i : _} {Q E : Value → Shared → Prop} {s : Shared} (q : Stop (wpAny M A (eval (Expr.ListComp a [⟨Expr.Name b c, Expr.Name d e, f, g⟩] h i) env) Q E s)) : wpAny M A (eval (Expr.ListComp a [⟨Expr.Name b c, Expr.Name d e, f, g⟩] h i) env) Q E s := q
theorem gen_toks {α : Type} {M : Model} {A : Around} {T : Sem α} {Q : α → Shared → Prop} {E : Value → Shared → Prop} {s : Shared} (h : ∀ tk, wpAny M A T Q E ⟨s.heap, s.gens, s.drawn, tk, s.os⟩) : wpAny M A T Q E s := h s.toks
theorem fresh_of {g h h' : Heap} {L' : Addr} {adr : List Addr} {news' : List (Addr × Obj)} {t : Addr} {o : Obj} (G : GSub h g adr) (N' : News g L' h' news') (hm : (t, o) ∈ news') (hn : t ∉ adr) : h.get? t = none := by
  cases e : h.get? t with
  | none => rfl
  | some o' => have z := G t o' e hn; rw [(N' _ hm).2.2] at z; cases z
/-- two places that differ (a word that omega does not split) -/
def Dif (a b : Addr) : Prop := @Ne Nat a b
theorem Dif.out {a b : Addr} (h : Dif a b) : @Ne Nat a b := h
theorem Dif.swap {a b : Addr} (h : Dif a b) : @Ne Nat b a := fun e => h e.symm
theorem Dif.mk {a b : Addr} (h : @Ne Nat a b) : Dif a b := h
def AllNe (d : Addr) : List (Addr × Obj) → Prop
  | [] => True
  | p :: r => Dif p.1 d ∧ AllNe d r
theorem allNe_of {h₀ h : Heap} {L d : Addr} (e : h.get? d = none) : ∀ {news : List (Addr × Obj)}, News h₀ L h news → AllNe d news
  | [], _ => trivial
  | p :: r, N => ⟨fun q => (by have z := (N p (.head _)).1; have q' : p.1 = d := q; rw [q', e] at z; cases z), allNe_of e fun x hx => N x (.tail _ hx)⟩
abbrev tup2 (a b : Int) (u v : Tok) : Obj := { cls := .type "tuple", data := .seq [.int a u, .int b v].toArray }
abbrev tup3 (a b c : Int) (u v x : Tok) : Obj := { cls := .type "tuple", data := .seq [.int a u, .int b v, .int c x].toArray }
/-- the attributes of an EcnState: the tokens that no call turns -/
structure ETok where
  k1 : Tok
  k2 : Tok
  k3 : Tok
  k4 : Tok
  k5 : Tok
  k6 : Tok
  v1 : Tok
  v4 : Tok
abbrev ecn (P : Params) (trials : Int) (st : Str) (v2 : Tok) (tried : Int) (v3 : Tok) (ds dc : Addr) (u : ETok) : Obj :=
  dictOf [⟨PyData.keyHash P (Str.ofString "trials"), .str (Str.ofString "trials") u.k1, .int trials u.v1⟩, ⟨PyData.keyHash P (Str.ofString "state"), .str (Str.ofString "state") u.k2, .str st v2⟩, ⟨PyData.keyHash P (Str.ofString "tried"), .str (Str.ofString "tried") u.k3, .int tried v3⟩,
    ⟨PyData.keyHash P (Str.ofString "lost"), .str (Str.ofString "lost") u.k4, .int 0 u.v4⟩, ⟨PyData.keyHash P (Str.ofString "sent"), .str (Str.ofString "sent") u.k5, .ref ds⟩, ⟨PyData.keyHash P (Str.ofString "counts"), .str (Str.ofString "counts") u.k6, .ref dc⟩] 6

theorem two_turned {h₀ h h' : Heap} {L d1 d2 : Addr} {o1 o1' o2 o2' : Obj} {news new1 : List (Addr × Obj)} {g1 : Obj → List (Addr × Obj)} {g2 : Obj → Obj → List (Addr × Obj)} (N : News h₀ L h news) (U1 : UpdF d1 o1 news g1) (U2 : ∀ o', UpdF d2 o2 (g1 o') (g2 o'))
    (N1 : News h₀ L h' new1) (hm1 : (d1, o1') ∈ new1) (hm2 : (d2, o2') ∈ new1) (K : Kept [d1, d2] h h') : News h₀ L h' (g2 o1' o2') :=
  news_frame N N1 K _ fun p hp => by
    rcases (updF_rest (U2 o1')).2 o2' p hp with rfl | ⟨h1, h2⟩
    · exact .inl hm2
    · rcases (updF_rest U1).2 o1' p h1 with rfl | ⟨h3, h4⟩
      · exact .inl hm1
      · exact .inr ⟨h3, by simp only [List.mem_cons, List.not_mem_nil, or_false, not_or]; exact ⟨h4, h2⟩⟩
theorem second_in {d1 d2 : Addr} {o1 o2 : Obj} {news : List (Addr × Obj)} {g1 : Obj → List (Addr × Obj)} {g2 : Obj → Obj → List (Addr × Obj)} (U1 : UpdF d1 o1 news g1) (U2 : ∀ o', UpdF d2 o2 (g1 o') (g2 o')) (hne : d2 ≠ d1) : (d2, o2) ∈ news := by
  rcases (updF_rest U1).2 o1 _ (updF_rest (U2 o1)).1 with e | ⟨h, _⟩
  · exact absurd (congrArg Prod.fst e) hne
  · exact h

def cnt (k mk : Int) : Int := if mk = k then 1 else 0
def nextSt (st : Str) (td trials : Int) : Str := if (st == Str.ofString "testing") = true ∧ trials ≤ td then Str.ofString "waiting" else st
theorem not_mem_of_ne {d : Addr} {l : List Addr} (h : ∀ x ∈ l, @Ne Nat d x) : d ∉ l := fun hm => h d hm rfl
theorem tried_eq (td mk : Int) : (td + if ([2, 1].any fun y => y == mk) = true then 1 else 0) = td + cnt 2 mk + cnt 1 mk := by
  by_cases c2 : mk = 2
  · subst c2; simp [cnt]
  · by_cases c1 : mk = 1
    · subst c1; simp [cnt]
    · simp [cnt, c1, c2, Ne.symm c1, Ne.symm c2]
theorem nextSt_a {st : Str} {td trials : Int} (h1 : (st == Str.ofString "testing") = true) (h2 : trials ≤ td) : Str.ofString "waiting" = nextSt st td trials := (if_pos ⟨h1, h2⟩).symm
theorem nextSt_b {st : Str} {td trials : Int} (h2 : ¬ trials ≤ td) : st = nextSt st td trials := (if_neg fun q => h2 q.2).symm
theorem nextSt_c {st : Str} {td trials : Int} (h1 : (st == Str.ofString "testing") = false) : st = nextSt st td trials := (if_neg fun q => by rw [h1] at q; cases q.1).symm

theorem cnt_nonneg (k mk : Int) : 0 ≤ cnt k mk := by unfold cnt; split <;> omega
def cntL (k : Int) (ns : List Int) : Int := (ns.map (cnt k)).sum
theorem cntL_nil (k : Int) : cntL k [] = 0 := rfl
theorem cntL_nonneg (k : Int) : ∀ ns : List Int, 0 ≤ cntL k ns
  | [] => by simp [cntL]
  | n :: r => by
    have h1 := cnt_nonneg k n
    have h2 := cntL_nonneg k r
    simp only [cntL, List.map_cons, List.sum_cons] at h2 ⊢
    omega
theorem cntL_append (k : Int) (xs ys : List Int) : cntL k (xs ++ ys) = cntL k xs + cntL k ys := by simp [cntL]
theorem cntL_take_succ {k n : Int} {ns : List Int} {i : Nat} (h : ns[i]? = some n) : cntL k (ns.take (i + 1)) = cntL k (ns.take i) + cnt k n := by
  rw [List.take_add_one, h, cntL_append]
  simp [cntL]
def stOf (trials td : Int) : Str := if trials ≤ td then Str.ofString "waiting" else Str.ofString "testing"
theorem nextSt_stOf {trials td td' : Int} (h : td ≤ td') : nextSt (stOf trials td) td' trials = stOf trials td' := by
  unfold nextSt stOf
  by_cases h1 : trials ≤ td
  · have h2 : trials ≤ td' := by omega
    have e : (Str.ofString "waiting" == Str.ofString "testing") = false := by decide
    simp [h1, h2, e]
  · by_cases h2 : trials ≤ td'
    · simp [h1, h2]
    · simp [h1, h2]
theorem valueAt_stored {kvs : List (Str × Value)} {k : Str} {v : Value} : valueAt (stored kvs k v) k = some v := by
  unfold valueAt stored
  split
  · rename_i h
    induction kvs with
    | nil => simp at h
    | cons q r ih =>
      by_cases hq : q.1 = k
      · simp [hq]
      · simp only [List.any_cons, hq, decide_false, Bool.false_or] at h
        simpa [hq] using ih h
  · rename_i h
    have hn : kvs.find? (fun kv => decide (kv.1 = k)) = none := by
      simp only [List.find?_eq_none]
      intro q hq e
      exact h (List.any_eq_true.mpr ⟨q, hq, e⟩)
    simp [List.find?_append, hn]
theorem valueAt_stored_ne {kvs : List (Str × Value)} {k k' : Str} {v : Value} (hk : k ≠ k') : valueAt (stored kvs k v) k' = valueAt kvs k' := by
  unfold valueAt stored
  split
  · induction kvs with
    | nil => rfl
    | cons q r ih =>
      by_cases hq : q.1 = k
      · have hq' : ¬ q.1 = k' := fun e => hk (hq.symm.trans e)
        rename_i h
        by_cases hr : (r.any fun kv => decide (kv.1 = k)) = true
        · simpa [hq, hk, hq'] using ih hr
        · have e : r.map (fun kv => if kv.1 = k then (kv.1, v) else kv) = r := by
            refine (List.map_congr_left (g := id) fun x hx => ?_).trans (List.map_id r)
            have : ¬ x.1 = k := fun e => hr (List.any_eq_true.mpr ⟨x, hx, by simp [e]⟩)
            simp [this]
          simp [hq, hk, e]
      · rename_i h
        simp only [List.any_cons, hq, decide_false, Bool.false_or] at h
        by_cases hq' : q.1 = k'
        · simp [hq', Ne.symm hk]
        · simpa [hq, hq'] using ih h
  · simp [List.find?_append, hk]
theorem stored_stored {kvs : List (Str × Value)} {k : Str} {v v' : Value} : stored (stored kvs k v) k v' = stored kvs k v' := by
  by_cases h : (kvs.any fun kv => decide (kv.1 = k)) = true
  · have e1 : stored kvs k v = kvs.map fun kv => if kv.1 = k then (kv.1, v) else kv := if_pos h
    have e2 : stored kvs k v' = kvs.map fun kv => if kv.1 = k then (kv.1, v') else kv := if_pos h
    have h' : ((kvs.map fun kv => if kv.1 = k then (kv.1, v) else kv).any fun kv => decide (kv.1 = k)) = true := by
      rw [List.any_map]
      refine Eq.trans (congrArg _ (funext fun q => ?_)) h
      by_cases hq : q.1 = k <;> simp [hq]
    rw [e1, e2]
    refine (if_pos h').trans ?_
    rw [List.map_map]
    apply List.map_congr_left
    intro q _
    by_cases hq : q.1 = k <;> simp [hq]
  · have e1 : stored kvs k v = kvs ++ [(k, v)] := if_neg h
    have e2 : stored kvs k v' = kvs ++ [(k, v')] := if_neg h
    have hn : ∀ q ∈ kvs, ¬ q.1 = k := fun q hq e => h (List.any_eq_true.mpr ⟨q, hq, by simp [e]⟩)
    have h' : ((kvs ++ [(k, v)]).any fun kv => decide (kv.1 = k)) = true := by simp
    rw [e1, e2]
    refine (if_pos h').trans ?_
    rw [List.map_append]
    refine congr (congrArg _ ?_) (by simp)
    refine (List.map_congr_left (g := id) fun q hq => ?_).trans (List.map_id kvs)
    simp [hn q hq]
theorem stored_len {kvs : List (Str × Value)} {k : Str} {v : Value} : (stored kvs k v).length ≤ kvs.length + 1 := by
  unfold stored
  split <;> simp
theorem allNe_mk {d : Addr} : ∀ {l : List (Addr × Obj)}, (∀ p ∈ l, p.1 ≠ d) → AllNe d l
  | [], _ => trivial
  | p :: r, h => ⟨h p (.head _), allNe_mk fun x hx => h x (.tail _ hx)⟩
def NeAll (a : Addr) : List Addr → Prop
  | [] => True
  | b :: r => Dif a b ∧ NeAll a r
def Apart : List Addr → Prop
  | [] => True
  | a :: r => NeAll a r ∧ Apart r
theorem news_keep {h₀ h h' : Heap} {L : Addr} {news : List (Addr × Obj)} (N : News h₀ L h news) (K : Kept [] h h') : News h₀ L h' news := fun p hp => ⟨K _ _ (N p hp).1 (by simp), (N p hp).2⟩
theorem not_true_of_false {b : Bool} (h : b = false) : ¬ b = true := fun e => by rw [h] at e; cases e
def ackSt (st : Str) (n : Int) : Str := if 0 < n then Str.ofString "good" else st
theorem ackSt_pos {st : Str} {n : Int} (h : n > 0) : Str.ofString "good" = ackSt st n := (if_pos h).symm
theorem ackSt_neg {st : Str} {n : Int} (h : ¬ n > 0) : st = ackSt st n := (if_neg h).symm
theorem ackSt_ok {st : Str} {n : Int} (h : (st == Str.ofString "failed") = false) : (ackSt st n == Str.ofString "failed") = false := by
  unfold ackSt
  split
  · decide
  · exact h
theorem off1_dif {D : Addr} : ∀ {l : List (Addr × Obj)}, LCg.Off1 D l → AllNe D l
  | [], _ => trivial
  | _ :: _, h => ⟨h.1, off1_dif h.2⟩
theorem dif_of {h₀ h : Heap} {L a b : Addr} {oa ob : Obj} {news : List (Addr × Obj)} (N : News h₀ L h news) (ha : (a, oa) ∈ news) (hb : (b, ob) ∈ news) (hd : oa.data ≠ ob.data) : Dif a b := fun e => by
  have e' : a = b := e
  subst e'
  have z := (N _ ha).1
  rw [(N _ hb).1] at z
  cases z
  exact hd rfl
theorem dict_data {prog : Program} {w : World} {o : Obj} {kvs : List (Str × Value)} (h : o.IsDictOf (PySem.strKind prog w) kvs) : ∃ es ep, o.data = .dict es ep := by
  obtain ⟨es, ep, _, hd, _⟩ := h
  exact ⟨es, ep, hd⟩
def Either (a b c : Addr) : Prop := a = b ∨ a = c
theorem Dif.either {a b c d : Addr} (h : Either a b c) (h1 : @Ne Nat b d) (h2 : @Ne Nat c d) : @Ne Nat a d := by
  rcases h with rfl | rfl
  · exact h1
  · exact h2
def Born (a k : Addr) (news : List (Addr × Obj)) : Prop := a = k ∨ AllNe a news
theorem allNe_mem {d : Addr} {p : Addr × Obj} {news : List (Addr × Obj)} (h : AllNe d news) (hp : p ∈ news) : Dif p.1 d := by
  induction news with
  | nil => cases hp
  | cons q r ih =>
    rcases List.mem_cons.mp hp with e | hp
    · rw [e]; exact h.1
    · exact ih h.2 hp
theorem Dif.born {a k d : Addr} {o : Obj} {news : List (Addr × Obj)} (h : Born a k news) (hm : (d, o) ∈ news) (h1 : @Ne Nat k d) : @Ne Nat a d := by
  rcases h with rfl | h
  · exact h1
  · exact Dif.swap (allNe_mem h hm)
theorem Dif.newL {a d : Addr} {o : Obj} {news : List (Addr × Obj)} (h : AllNe d news) (hm : (a, o) ∈ news) : @Ne Nat a d := allNe_mem h hm
theorem Dif.newR {a d : Addr} {o : Obj} {news : List (Addr × Obj)} (h : AllNe d news) (hm : (a, o) ∈ news) : @Ne Nat d a := Dif.swap (allNe_mem h hm)
theorem allNe_lt {D : Addr} {news : List (Addr × Obj)} (h : ∀ p ∈ news, p.1 < D) : AllNe D news := allNe_mk fun p hp => Nat.ne_of_lt (h p hp)

theorem fillAll : (PySem.Challenge.rw_sa0563_01 = PySem.Challenge.rw_sa0563_01) ∧ (hd.heap_39 = hd.heap_39) := by
  w_top off
  k_fill
  exact ⟨rfl, rfl⟩
local macro_rules | `(tactic| walk_at "my six") => `(tactic| (k_asm; k_asm; k_asm; k_asm; k_asm; first | exact rfl | assumption))
local macro_rules | `(tactic| walk_at "my dif") => `(tactic| exact Dif.mk (by k_ne))
local macro_rules | `(tactic| walk_at "my le") => `(tactic| first | exact Nat.zero_le _ | assumption | omega)
local macro_rules | `(tactic| walk_at "my in") => `(tactic| ((repeat (first | with_reducible exact List.mem_cons_self | with_reducible refine List.mem_cons_of_mem _ ?_)); done))
local macro_rules | `(tactic| walk_at "my inp") => `(tactic| ((repeat (first | exact List.Mem.head _ | refine' List.Mem.tail _ ?_)); done))
local macro_rules | `(tactic| cell_enter) => `(tactic| first
  | (refine' code_defG ?k1 ?k2 ?k3 ?k4 ?k5 ?kA ?kF ?kK ?k6 ?k7 ?k8 ?k9 ?kB ?_ ?c2 ?c3 ?c4 ?c5; (case kA => exact rfl); (case kF => exact rfl); (case kK => first | exact rfl | assumption); (case k1 => k_asm); (case k2 => k_asm); (case k3 => k_asm); (case k4 => k_asm); (case k5 => k_asm); (case k6 => k_is); (case k7 => k_is); (case k8 => ktr_room); (case k9 => exact BindsTo.of_eq rfl); (case c5 => decide); (case kB => exact locs rfl); (case c2 => exact rfl); (case c3 => exact rfl); (case c4 => exact rfl); k_whole; intro g' L' h' FG' F' N' B' X' T' kG'; (try dsimp only); (try k_fold))
  | (refine' enter_cells ?k1 ?k2 ?k3 ?k4 ?k5 ?kA ?kF ?kK ?k6 ?k7 ?k8 ?k9 ?kB ?kD ?_ ?c2 ?c3 ?c4; (case kA => exact rfl); (case kF => exact rfl); (case kK => first | exact rfl | assumption); (case k1 => k_asm); (case k2 => k_asm); (case k3 => k_asm); (case k4 => k_asm); (case k5 => k_asm); (case k6 => k_is); (case k7 => k_is); (case k8 => ktr_room); (case k9 => exact BindsTo.of_eq rfl); (case kB => exact rfl); (case kD => decide +kernel); (case c2 => exact rfl); (case c3 => exact rfl); (case c4 => exact rfl); k_whole; intro g' L' h' tk' cells' FG' F' N' Y' B' X' T' l1 kG'; (try k_lt l1); k_cells Y'; (try simp only [List.cons_append, List.nil_append] at N'); (try dsimp only); (try k_fold)))
local macro_rules | `(tactic| lcg_off) => `(tactic| (simp only [LCg.Off3, and_true]; with_reducible assumption))
local macro_rules | `(tactic| walk_at "execs cons") => `(tactic| (k_here; (with_reducible refine gen_toks ?_); intro tk; (with_reducible refine wpAny_execs_cons ?_); (try dsimp only)))
local macro_rules | `(tactic| walk_at "execs nil") => `(tactic| (k_here; (with_reducible refine gen_toks ?_); intro tk; (with_reducible refine wpAny_execs_nil ?_); (try dsimp only)))
local macro_rules | `(tactic| walk_at "my kept") => `(tactic| first | exact List.forall_mem_nil _ | (refine List.forall_mem_cons.mpr ⟨?kpA, ?kpB⟩; (case kpA => first | exact Or.inr (by k_mem) | exact Or.inl (by simp only [List.mem_cons, true_or, or_true])); (case kpB => walk_at "my kept")))
local macro_rules | `(tactic| k_enter) => `(tactic| cell_enter)
local macro_rules | `(tactic| walk_at "my fresh") => `(tactic| first | exact List.forall_mem_nil _ | (refine List.forall_mem_cons.mpr ⟨?frA, ?frB⟩; (case frA => k_ne); (case frB => walk_at "my fresh")))
local macro_rules | `(tactic| k_ne) => `(tactic| (refine neN ?_; (try dsimp only); first | exact Dif.out (by with_reducible assumption) | exact Dif.swap (by with_reducible assumption) | omega))
local macro_rules | `(tactic| walk_at "my apart") => `(tactic| first | exact trivial | (refine And.intro ?apA ?apB; (case apA => walk_at "my apart"); (case apB => walk_at "my apart")) | (refine Dif.mk ?_; k_ne))
local macro_rules | `(tactic| walk_at "FinE") => `(tactic| ((unfold LCg.FinE); intro D' h' tk' F' N' o1'; (replace o1' := off1_dif o1'); (try (simp only [AllNe, and_true] at o1'; repeat (have hdf := And.left o1'; replace o1' := And.right o1'))); (try simp only [List.nil_append, List.cons_append] at N'); (try dsimp only)))
section
variable {prog : Program} {w : World} {p : Program} {loose : List Str} {mean : ExcName → Option Value} {mg mb : Str → Option Value}
  {dp un : Nat} {gd : Option (List Code)} {cn : Str} {cs : Scope} {a : Addr} {ccd : Value} {cl : List (Str × Addr)} {outer : List Env} {A₀ : Around} {base h₀ : Heap} {L : Addr} {m : Str → Option Value} {s : Shared} {Q E : Value → Shared → Prop}
theorem take_core {many : Int} {b q : Addr} {pos : Int} {t tm : Tok} {vs : List Value} {ns : List Int} {nb nq : Nat}
    (B : Below A₀ base outer h₀) (F : Fr h₀ L s.heap m) (X : (hd.heap_39 w.params).In h₀) (N : News h₀ L s.heap [(b, listOf [.ref q, .int pos t].toArray nb), (q, listOf vs.toArray nq)]) (T : Top p loose mean mg mb h₀) (hk : cs.kind = .function)
    (hI : IntsAre vs ns) (hlen : ns.length ≤ 63) (hbq : @Ne Nat b q) (hdp : dp + 1 < recursionLimit) (hp0 : 0 ≤ pos) (hp1 : pos ≤ 1000) (hm : 1 ≤ many) (hm2 : many ≤ 12)
    (hret : ∀ (r : Int) (t' tr : Tok) (h' : Heap) (tk' nb' : Nat), 0 ≤ r → r < many → Fr h₀ L h' m → News h₀ L h' [(b, listOf [.ref q, .int (pos+1) t'].toArray nb')] → Kept [b] s.heap h' → Q (.int r tr) { s with heap := h', toks := tk' }) :
    wpAny (model prog w) (ktrTop dp un gd cn cs L a ccd cl outer) (call (.ref 96) [.ref b, .int many tm]) Q E s := by
  refine wpAny_call ?_
  k_dflt cell_enter
  k_steps
  all_goals
    rename GSub _ _ _ => kG
    refine' hret _ _ _ _ _ _ ?a ?b ?c ?d ?e
    case a => exact Int.fmod_nonneg_of_pos _ (by omega)
    case b => exact Int.fmod_lt_of_pos _ (by omega)
    case c => assumption
    case d => exact news_sub (by assumption) (by lcg_sub)
    case e => exact kept_of kG (by assumption) N (by assumption) (List.forall_mem_cons.mpr ⟨.inl (by simp), List.forall_mem_cons.mpr ⟨.inr (by k_mem), List.forall_mem_nil _⟩⟩)

theorem take_spec {many : Int} {b q : Addr} {pos : Int} {t tm : Tok} {vs : List Value} {ns : List Int} {nb nq : Nat} {news : List (Addr × Obj)} {g : Obj → List (Addr × Obj)}
    (B : Below A₀ base outer h₀) (F : Fr h₀ L s.heap m) (X : (hd.heap_39 w.params).In h₀) (N : News h₀ L s.heap news) (T : Top p loose mean mg mb h₀) (hk : cs.kind = .function)
    (U : UpdF b (listOf [.ref q, .int pos t].toArray nb) news g) (hq : (q, listOf vs.toArray nq) ∈ news)
    (hI : IntsAre vs ns) (hlen : ns.length ≤ 63) (hbq : @Ne Nat b q) (hdp : dp + 1 < recursionLimit) (hp0 : 0 ≤ pos) (hp1 : pos ≤ 1000) (hm : 1 ≤ many) (hm2 : many ≤ 12)
    (hret : ∀ (r : Int) (t' tr : Tok) (h' : Heap) (tk' nb' : Nat), 0 ≤ r → r < many → Fr h₀ L h' m → News h₀ L h' (g (listOf [.ref q, .int (pos+1) t'].toArray nb')) → Kept [b] s.heap h' → Q (.int r tr) { s with heap := h', toks := tk' }) :
    wpAny (model prog w) (ktrTop dp un gd cn cs L a ccd cl outer) (call (.ref 96) [.ref b, .int many tm]) Q E s :=
  take_core B F X (news_sub N (List.forall_mem_cons.mpr ⟨(updF_rest U).1, List.forall_mem_cons.mpr ⟨hq, List.forall_mem_nil _⟩⟩)) T hk hI hlen hbq hdp hp0 hp1 hm hm2
    fun r t' tr h' tk' nb' r0 r1 F' N' K => hret r t' tr h' tk' nb' r0 r1 F' (one_turned N U N' (.head _) K) K

end
section
variable {prog : Program} {w : World} {p : Program} {loose : List Str} {mean : ExcName → Option Value} {mg mb : Str → Option Value}
  {dp un : Nat} {gd : Option (List Code)} {cn : Str} {cs : Scope} {a : Addr} {ccd : Value} {cl : List (Str × Addr)} {outer : List Env} {A₀ : Around} {base h₀ : Heap} {L : Addr} {m : Str → Option Value} {s : Shared} {Q E : Value → Shared → Prop}
theorem ints_at {vs : List Value} {ns : List Int} (h : IntsAre vs ns) (i : Nat) (v : Value) (e : vs.toArray[i]? = some v) : ∃ n t, v = .int n t := by
  have e' : vs[i]? = some v := by simpa using e
  have hlt : i < vs.length := by
    rcases Nat.lt_or_ge i vs.length with h1 | h1
    · exact h1
    · rw [List.getElem?_eq_none h1] at e'; cases e'
  have hlt' : i < ns.length := by have := h.length; omega
  obtain ⟨t, hx⟩ := h.get i ns[i] (by simp [hlt'])
  rw [hx] at e'
  exact ⟨_, t, (Option.some.inj e').symm⟩
section
variable {env : Env} {ct elt : Expr} {x : Str} {scope : Scope} {cl : List (Str × Addr)} {S : List (Addr × Obj) → Prop} {P : Nat → Value → Prop} {Fin : List Value → List (Addr × Obj) → Prop} {n : Nat} {news : List (Addr × Obj)} {A : Around}
open LCg LCt in
/-- a comprehension with a test, over ints, that turns nothing: its list is no longer than its source -/
theorem comp_any (hS : S news) (hP : ∀ i v, P i v → ∃ n t, v = .int n t)
    (turn : ∀ (k : Int) (t : Tok) (ys : List Value) I oI C oC D m₂ h tk (E' : Value → Shared → Prop) (Qy : Value → Shared → Prop) (Qe : Shared → Prop), NsObj oC m₂ → m₂ x = some (.int k t) → Fr h₀ L h m → News h₀ L h ((I, oI) :: (C, oC) :: (D, lst ys) :: news) →
      (∀ y h' tk', Fr h₀ L h' m → News h₀ L h' ((I, oI) :: (C, oC) :: (D, lst ys) :: news) → Qy y { s with heap := h', toks := tk' }) → (∀ h' tk', Fr h₀ L h' m → News h₀ L h' ((I, oI) :: (C, oC) :: (D, lst ys) :: news) → Qe { s with heap := h', toks := tk' }) →
      wpAny (model prog w) A (isTrue ct (compEnvC scope cl C env) (eval ct (compEnvC scope cl C env))) (fun ok s' => if ok = true then wpAny (model prog w) A (eval elt (compEnvC scope cl C env)) Qy E' s' else Qe s') E' { s with heap := h, toks := tk })
    (fin : ∀ ys : List Value, ys.length ≤ n → Fin ys news) :
    CompRestT prog w A h₀ L m env ct elt x scope cl s S P Fin n 0 [] news := by
  have all : ∀ k i (ys : List Value), ys.length ≤ i → i + k = n → CompRestT prog w A h₀ L m env ct elt x scope cl s S P Fin k i ys news := by
    intro k
    induction k with
    | zero => exact fun i ys hy e => CompRestT.zero (fin ys (by omega))
    | succ k ih =>
      intro i ys hy e
      refine CompRestT.succ fun v I oI C oC D m₂ h tk E' hv hC hx F N off ne => ?_
      obtain ⟨q, t, rfl⟩ := hP i v hv
      refine turn q t ys I oI C oC D m₂ h tk E' _ _ hC hx F N (fun y h' tk' F' N' => ?_) (fun h' tk' F' N' => ?_)
      · exact ⟨h', tk', news, rfl, F', N', off, hS, ih (i + 1) (ys ++ [y]) (by simp; omega) (by omega)⟩
      · exact ⟨h', tk', news, rfl, F', N', off, hS, ih (i + 1) ys (by omega) (by omega)⟩
  exact all n 0 [] (Nat.le_refl _) (Nat.zero_add n)
end

end
section
variable {prog : Program} {w : World} {p : Program} {loose : List Str} {mean : ExcName → Option Value} {mg mb : Str → Option Value}
  {dp un : Nat} {gd : Option (List Code)} {cn : Str} {cs : Scope} {a : Addr} {ccd : Value} {cl : List (Str × Addr)} {outer : List Env} {A₀ : Around} {base h₀ : Heap} {L : Addr} {m : Str → Option Value} {s : Shared} {Q E : Value → Shared → Prop}
local macro_rules | `(tactic| walk_at "CompSrc") => `(tactic| (k_here; k_dflt (first
  | (refine LCg.CompSrc.range (by rfl) (by k_asm) (by k_asm) (by assumption) (by first | decide | rfl) (by first | rfl | decide) (by first | size_fits | exact Nat.le_of_ble_eq_true rfl) ?_; intro g'; lcg_lit))))

theorem fit_some {tb ta tk ts : Addr} {zb ob cb z o c ka kb sz so : Int} {u1 u2 u3 u4 u5 u6 u7 u8 u9 u10 : Tok}
    (B : Below A₀ base outer h₀) (F : Fr h₀ L s.heap m) (X : (hd.heap_39 w.params).In h₀) (N : News h₀ L s.heap [(tb, { cls := .type "tuple", data := .seq [.int zb u1, .int ob u2, .int cb u3].toArray }), (ta, { cls := .type "tuple", data := .seq [.int z u4, .int o u5, .int c u6].toArray }), (tk, { cls := .type "tuple", data := .seq [.int ka u7, .int kb u8].toArray }), (ts, { cls := .type "tuple", data := .seq [.int sz u9, .int so u10].toArray })]) (T : Top p loose mean mg mb h₀) (hk : cs.kind = .function)
    (hdp : dp + 2 < recursionLimit)
    (ht : ∀ (h' : Heap) (tk' : Nat), zb ≤ z → ob ≤ o → cb ≤ c → ka ≤ z - zb + (c - cb) → kb ≤ o - ob + (c - cb) → ka + kb ≤ z - zb + (o - ob) + (c - cb) → z ≤ sz → o ≤ so → z + o + c ≤ sz + so → Fr h₀ L h' m → Kept [] s.heap h' → Q (.bool true) { s with heap := h', toks := tk' })
    (hf : ∀ (h' : Heap) (tk' : Nat), ¬ (zb ≤ z ∧ ob ≤ o ∧ cb ≤ c ∧ ka ≤ z - zb + (c - cb) ∧ kb ≤ o - ob + (c - cb) ∧ ka + kb ≤ z - zb + (o - ob) + (c - cb) ∧ z ≤ sz ∧ o ≤ so ∧ z + o + c ≤ sz + so) → Fr h₀ L h' m → Kept [] s.heap h' → Q (.bool false) { s with heap := h', toks := tk' }) :
    wpAny (model prog w) (ktrTop dp un gd cn cs L a ccd cl outer) (call (.ref 26) [.ref tb, .ref ta, .ref tk, .ref ts]) Q E s := by
  refine wpAny_call ?_
  k_dflt cell_enter
  k_steps
  all_goals
    rename GSub _ _ _ => kG
    first
    | (refine' hf _ _ ?a ?b ?c
       case a => omega
       case b => assumption
       case c => exact kept_of kG (by assumption) N (by assumption) (by walk_at "my kept"))
    | (have e : decide (o ≤ so) = false := decide_eq_false (by omega)
       rw [e]
       refine' hf _ _ ?a ?b ?c
       case a => omega
       case b => assumption
       case c => exact kept_of kG (by assumption) N (by assumption) (by walk_at "my kept"))
    | (have e : decide (z ≤ sz) = false := decide_eq_false (by omega)
       rw [e]
       refine' hf _ _ ?a ?b ?c
       case a => omega
       case b => assumption
       case c => exact kept_of kG (by assumption) N (by assumption) (by walk_at "my kept"))
    | (by_cases e : z + (o + (c + 0)) ≤ sz + so
       · rw [decide_eq_true e]
         refine' ht _ _ (by omega) (by omega) (by omega) (by omega) (by omega) (by omega) (by omega) (by omega) (by omega) ?b ?c
         case b => assumption
         case c => exact kept_of kG (by assumption) N (by assumption) (by walk_at "my kept")
       · rw [decide_eq_false e]
         refine' hf _ _ ?a ?b ?c
         case a => omega
         case b => assumption
         case c => exact kept_of kG (by assumption) N (by assumption) (by walk_at "my kept"))

theorem fit_none {vb : Value} {tk ts : Addr} {ka kb : Int} {u7 u8 : Tok}
    (B : Below A₀ base outer h₀) (F : Fr h₀ L s.heap m) (X : (hd.heap_39 w.params).In h₀) (N : News h₀ L s.heap [(tk, { cls := .type "tuple", data := .seq [.int ka u7, .int kb u8].toArray })]) (T : Top p loose mean mg mb h₀) (hk : cs.kind = .function)
    (hdp : dp + 2 < recursionLimit)
    (ht : ∀ (h' : Heap) (tk' : Nat), ka + kb = 0 → Fr h₀ L h' m → Kept [] s.heap h' → Q (.bool true) { s with heap := h', toks := tk' })
    (hf : ∀ (h' : Heap) (tk' : Nat), ¬ ka + kb = 0 → Fr h₀ L h' m → Kept [] s.heap h' → Q (.bool false) { s with heap := h', toks := tk' }) :
    wpAny (model prog w) (ktrTop dp un gd cn cs L a ccd cl outer) (call (.ref 26) [vb, .none, .ref tk, .ref ts]) Q E s := by
  refine wpAny_call ?_
  k_dflt cell_enter
  k_steps
  all_goals
    rename GSub _ _ _ => kG
    (by_cases e : ka + kb = 0
     · rw [show (ka + kb == 0) = true from beq_iff_eq.mpr e]
       refine' ht _ _ e ?b ?c
       case b => assumption
       case c => exact kept_of kG (by assumption) N (by assumption) (by walk_at "my kept")
     · rw [show (ka + kb == 0) = false from beq_eq_false_iff_ne.mpr e]
       refine' hf _ _ e ?b ?c
       case b => assumption
       case c => exact kept_of kG (by assumption) N (by assumption) (by walk_at "my kept"))

end
section
local macro_rules | `(tactic| walk_at "call builtin:dict.get") => `(tactic| (k_here; k_dflt (first
  | refine kdg_get2 (knd := PySem.strKind _ _) (by k_asm) (by k_mem) (by k_asm) (by k_asm) (strKind_is _ _ _ _) (some _) (by with_reducible assumption) ?_
  | refine kdg_get2 (knd := PySem.strKind _ _) (by k_asm) (by k_mem) (by k_asm) (by k_asm) (strKind_is _ _ _ _) none (by with_reducible assumption) ?_); (try dsimp only [Option.getD])))
local macro_rules | `(tactic| walk_at "subscriptTail") => `(tactic| (k_here; (with_reducible show wpAny _ _ (subscriptTail _ _ (Value.ref _) (Value.str _ _)) _ _ _); k_dflt (refine kda_item (knd := PySem.strKind _ _) (by k_asm) (by k_mem) (by k_asm) (strKind_is _ _ _ _) (by with_reducible assumption) ?_)))
local macro_rules | `(tactic| walk_at "setItem ref str") => `(tactic| (k_here; k_dflt (refine' kda_set (knd := PySem.strKind _ _) ?F ?N ?U ?d (strKind_is _ _ _ _) ?z ?_; (case F => k_asm); (case N => k_asm); (case U => k_updF); (case d => k_asm); (case z => rw [sizeLine_eq]; omega)); intro h' o' F' N' hd'; (try dsimp only at N')))
section
variable {prog : Program} {w : World} {p : Program} {loose : List Str} {mean : ExcName → Option Value} {mg mb : Str → Option Value}
  {dp un : Nat} {gd : Option (List Code)} {cn : Str} {cs : Scope} {a : Addr} {ccd : Value} {cl : List (Str × Addr)} {outer : List Env} {A₀ : Around} {base h₀ : Heap} {L : Addr} {m : Str → Option Value} {s : Shared} {Q E : Value → Shared → Prop}
/-- what the dict of the counts says of a space -/
def CntAt (news : List (Addr × Obj)) (ckvs : List (Str × Value)) (sp : Str) (zb ob cb : Int) : Prop :=
  (valueAt ckvs sp = none ∧ zb = 0 ∧ ob = 0 ∧ cb = 0) ∨ ∃ kb u v x, valueAt ckvs sp = some (.ref kb) ∧ (kb, tup3 zb ob cb u v x) ∈ news
theorem allLt_ne {D : Addr} : ∀ {l : List (Addr × Obj)}, AllLt D l → AllNe D l
  | [], _ => trivial
  | _ :: _, h => ⟨Nat.ne_of_lt h.1, allLt_ne h.2⟩
theorem cntAt_more {p : Addr × Obj} {news : List (Addr × Obj)} {ckvs : List (Str × Value)} {sp : Str} {z o c : Int} (h : CntAt news ckvs sp z o c) : CntAt (p :: news) ckvs sp z o c := by
  rcases h with h | ⟨kb, u, v, x, h, hm⟩
  · exact .inl h
  · exact .inr ⟨kb, u, v, x, h, List.mem_cons_of_mem _ hm⟩
/-- counts_in: a tuple, an old or a new one -/
theorem counts_at {x dx ds dc : Addr} {trials td z o c : Int} {st sp : Str} {v2 v3 us : Tok} {u : ETok} {oC : Obj} {ckvs : List (Str × Value)} {news : List (Addr × Obj)}
    (B : Below A₀ base outer h₀) (F : Fr h₀ L s.heap m) (X : (hd.heap_39 w.params).In h₀) (N : News h₀ L s.heap news) (T : Top p loose mean mg mb h₀) (hk : cs.kind = .function)
    (hx : (x, instObj 85 dx) ∈ news) (hdx : (dx, ecn w.params trials st v2 td v3 ds dc u) ∈ news) (hdc : (dc, oC) ∈ news)
    (hoC : oC.IsDictOf (PySem.strKind prog w) ckvs) (lo2 : (dc == sysModules) = false)
    (hC : CntAt news ckvs sp z o c) (hz : ckvs.length ≤ 2) (hdp : dp + 2 < recursionLimit)
    (hret : ∀ (q : Addr) (a1 a2 a3 : Tok) (h' : Heap) (tk' : Nat), (AllNe q news ∨ valueAt ckvs sp = some (.ref q)) → Kept [] s.heap h' → Fr h₀ L h' m → News h₀ L h' ((q, tup3 z o c a1 a2 a3) :: news) → Q (.ref q) { s with heap := h', toks := tk' }) :
    wpAny (model prog w) (ktrTop dp un gd cn cs L a ccd cl outer) (call (.ref 61) [.ref x, .str sp us]) Q E s := by
  have N0 := news_sub N (List.forall_mem_cons.mpr ⟨hx, List.forall_mem_cons.mpr ⟨hdx, List.forall_mem_cons.mpr ⟨hdc, List.forall_mem_nil _⟩⟩⟩)
  have hkeep : ∀ {h' : Heap}, Kept [] s.heap h' → News h₀ L h' news := fun K => news_keep N K
  have hfr : ∀ {d : Addr}, s.heap.get? d = none → AllNe d news := fun e => allNe_of e N
  rcases hC with ⟨hvc, rfl, rfl, rfl⟩ | ⟨kb, w1, w2, w3, hvc, hkb⟩
  · clear N
    refine wpAny_call ?_
    k_dflt cell_enter
    k_steps
    rename GSub (Shared.heap s) _ _ => kG
    have K := kept_of (us := []) kG (by assumption) N0 (by assumption) (by walk_at "my kept")
    refine' hret _ _ _ _ _ _ ?a K ?b ?c
    case b => assumption
    case a => exact .inl (hfr (fresh_of kG (by assumption) (by k_mem) (not_mem_of_ne (by walk_at "my fresh"))))
    case c =>
      refine List.forall_mem_cons.mpr ⟨?c1, hkeep K⟩
      case c1 => exact (by assumption : News h₀ L _ _) _ (by k_mem)
  · clear N
    refine wpAny_call ?_
    k_dflt cell_enter
    k_steps
    rename GSub (Shared.heap s) _ _ => kG
    have K := kept_of (us := []) kG (by assumption) N0 (by assumption) (by walk_at "my kept")
    exact hret _ w1 w2 w3 _ _ (.inr hvc) K (by assumption) (List.forall_mem_cons.mpr ⟨hkeep K _ hkb, hkeep K⟩)
/-- sent_in -/
theorem sent_at {x dx ds dc t : Addr} {trials td : Int} {st sp : Str} {v2 v3 us : Tok} {u : ETok} {oS : Obj} {kvs : List (Str × Value)} {news : List (Addr × Obj)}
    (B : Below A₀ base outer h₀) (F : Fr h₀ L s.heap m) (X : (hd.heap_39 w.params).In h₀) (N : News h₀ L s.heap news) (T : Top p loose mean mg mb h₀) (hk : cs.kind = .function)
    (hx : (x, instObj 85 dx) ∈ news) (hdx : (dx, ecn w.params trials st v2 td v3 ds dc u) ∈ news) (hds : (ds, oS) ∈ news)
    (hoS : oS.IsDictOf (PySem.strKind prog w) kvs) (lo : (ds == sysModules) = false)
    (hv : valueAt kvs sp = some (.ref t)) (hdp : dp + 2 < recursionLimit)
    (hret : ∀ (h' : Heap) (tk' : Nat), Kept [] s.heap h' → Fr h₀ L h' m → News h₀ L h' news → Q (.ref t) { s with heap := h', toks := tk' }) :
    wpAny (model prog w) (ktrTop dp un gd cn cs L a ccd cl outer) (call (.ref 54) [.ref x, .str sp us]) Q E s := by
  have N0 := news_sub N (List.forall_mem_cons.mpr ⟨hx, List.forall_mem_cons.mpr ⟨hdx, List.forall_mem_cons.mpr ⟨hds, List.forall_mem_nil _⟩⟩⟩)
  have hkeep : ∀ {h' : Heap}, Kept [] s.heap h' → News h₀ L h' news := fun K => news_keep N K
  clear N
  refine wpAny_call ?_
  k_dflt cell_enter
  k_steps
  rename GSub (Shared.heap s) _ _ => kG
  have K := kept_of (us := []) kG (by assumption) N0 (by assumption) (by walk_at "my kept")
  exact hret _ _ K (by assumption) (hkeep K)

end
section
variable {prog : Program} {w : World} {p : Program} {loose : List Str} {mean : ExcName → Option Value} {mg mb : Str → Option Value}
  {dp un : Nat} {gd : Option (List Code)} {cn : Str} {cs : Scope} {a : Addr} {ccd : Value} {cl : List (Str × Addr)} {outer : List Env} {A₀ : Around} {base h₀ : Heap} {L : Addr} {m : Str → Option Value} {s : Shared} {Q E : Value → Shared → Prop}
local macro_rules | `(tactic| walk_at "pad") => `(tactic| skip)
theorem on_sent_old {x dx ds dc t : Addr} {trials td : Int} {st sp : Str} {v2 v3 : Tok} {u : ETok} {os : Obj} {kvs : List (Str × Value)} {z o mk : Int} {u1 u2 us um : Tok}
    (B : Below A₀ base outer h₀) (F : Fr h₀ L s.heap m) (X : (hd.heap_39 w.params).In h₀) (N : News h₀ L s.heap [(x, instObj 85 dx), (dx, ecn w.params trials st v2 td v3 ds dc u), (ds, os), (t, tup2 z o u1 u2)]) (T : Top p loose mean mg mb h₀) (hk : cs.kind = .function)
    (hos : os.IsDictOf (PySem.strKind prog w) kvs) (lo : (ds == sysModules) = false) (hv : valueAt kvs sp = some (.ref t)) (hz : kvs.length ≤ 2)
    (hne : @Ne Nat x dx ∧ @Ne Nat x ds ∧ @Ne Nat x t ∧ @Ne Nat dx ds ∧ @Ne Nat dx t ∧ @Ne Nat ds t)
    (hdp : dp + 3 < recursionLimit)
    (hret : ∀ (t' : Addr) (z' o' td' : Int) (st' : Str) (os' : Obj) (v2' v3' u1' u2' : Tok) (h' : Heap) (tk' : Nat), z' = z + cnt 2 mk → o' = o + cnt 1 mk → td' = td + cnt 2 mk + cnt 1 mk → st' = nextSt st td' trials → s.heap.get? t' = none → os'.IsDictOf (PySem.strKind prog w) (stored kvs sp (.ref t')) →
      Fr h₀ L h' m → News h₀ L h' [(t', tup2 z' o' u1' u2'), (dx, ecn w.params trials st' v2' td' v3' ds dc u), (ds, os')] → Kept [dx, ds] s.heap h' → Q .none { s with heap := h', toks := tk' }) :
    wpAny (model prog w) (ktrTop dp un gd cn cs L a ccd cl outer) (call (.ref 68) [.ref x, .str sp us, .int mk um]) Q E s := by
  obtain ⟨n1, n2, n3, n4, n5, n6⟩ := hne
  refine wpAny_call ?_
  k_dflt cell_enter
  k_steps
  all_goals
    refine' hret _ _ _ _ _ _ _ _ _ _ _ _ ?e1 ?e2 ?e3 ?e4 ?e5 ?e6 ?e7 ?e8 ?e9
    case e6 => assumption
    case e7 => assumption
    case e8 => exact news_sub (by assumption) (by lcg_sub)
    case e1 => simp [cnt]
    case e2 => simp [cnt]
    case e3 => exact tried_eq _ _
    case e4 => first | exact nextSt_a (by assumption) (by assumption) | exact nextSt_b (by assumption) | exact nextSt_c (by assumption)
    case e5 => (rename GSub (Shared.heap s) _ _ => kG); exact fresh_of kG (by assumption) (by k_mem) (not_mem_of_ne (by walk_at "my fresh"))
    case e9 => (rename GSub (Shared.heap s) _ _ => kG); exact kept_of kG (by assumption) N (by assumption) (by walk_at "my kept")

theorem on_sent_new {x dx ds dc : Addr} {trials td : Int} {st sp : Str} {v2 v3 : Tok} {u : ETok} {os : Obj} {kvs : List (Str × Value)} {mk : Int} {us um : Tok}
    (B : Below A₀ base outer h₀) (F : Fr h₀ L s.heap m) (X : (hd.heap_39 w.params).In h₀) (N : News h₀ L s.heap [(x, instObj 85 dx), (dx, ecn w.params trials st v2 td v3 ds dc u), (ds, os)]) (T : Top p loose mean mg mb h₀) (hk : cs.kind = .function)
    (hos : os.IsDictOf (PySem.strKind prog w) kvs) (lo : (ds == sysModules) = false) (hv : valueAt kvs sp = none) (hz : kvs.length ≤ 2)
    (hne : @Ne Nat x dx ∧ @Ne Nat x ds ∧ @Ne Nat dx ds)
    (hdp : dp + 3 < recursionLimit)
    (hret : ∀ (t' : Addr) (z' o' td' : Int) (st' : Str) (os' : Obj) (v2' v3' u1' u2' : Tok) (h' : Heap) (tk' : Nat), z' = 0 + cnt 2 mk → o' = 0 + cnt 1 mk → td' = td + cnt 2 mk + cnt 1 mk → st' = nextSt st td' trials → s.heap.get? t' = none → os'.IsDictOf (PySem.strKind prog w) (stored kvs sp (.ref t')) →
      Fr h₀ L h' m → News h₀ L h' [(t', tup2 z' o' u1' u2'), (dx, ecn w.params trials st' v2' td' v3' ds dc u), (ds, os')] → Kept [dx, ds] s.heap h' → Q .none { s with heap := h', toks := tk' }) :
    wpAny (model prog w) (ktrTop dp un gd cn cs L a ccd cl outer) (call (.ref 68) [.ref x, .str sp us, .int mk um]) Q E s := by
  obtain ⟨n1, n2, n3⟩ := hne
  refine wpAny_call ?_
  k_dflt cell_enter
  k_steps
  all_goals
    refine' hret _ _ _ _ _ _ _ _ _ _ _ _ ?e1 ?e2 ?e3 ?e4 ?e5 ?e6 ?e7 ?e8 ?e9
    case e6 => assumption
    case e7 => assumption
    case e8 => exact news_sub (by assumption) (by lcg_sub)
    case e1 => simp [cnt]
    case e2 => simp [cnt]
    case e3 => exact tried_eq _ _
    case e4 => first | exact nextSt_a (by assumption) (by assumption) | exact nextSt_b (by assumption) | exact nextSt_c (by assumption)
    case e5 => (rename GSub (Shared.heap s) _ _ => kG); exact fresh_of kG (by assumption) (by k_mem) (not_mem_of_ne (by walk_at "my fresh"))
    case e9 => (rename GSub (Shared.heap s) _ _ => kG); exact kept_of kG (by assumption) N (by assumption) (by walk_at "my kept")

/-- what the dict of the marks sent says of a space -/
def SentAt (news : List (Addr × Obj)) (kvs : List (Str × Value)) (sp : Str) (z o : Int) : Prop :=
  (valueAt kvs sp = none ∧ z = 0 ∧ o = 0) ∨ ∃ t u1 u2, valueAt kvs sp = some (.ref t) ∧ (t, tup2 z o u1 u2) ∈ news
theorem on_sent_spec {x dx ds dc : Addr} {trials td : Int} {st sp : Str} {v2 v3 : Tok} {u : ETok} {os : Obj} {kvs : List (Str × Value)} {z o mk : Int} {us um : Tok} {news : List (Addr × Obj)}
    (B : Below A₀ base outer h₀) (F : Fr h₀ L s.heap m) (X : (hd.heap_39 w.params).In h₀) (N : News h₀ L s.heap news) (T : Top p loose mean mg mb h₀) (hk : cs.kind = .function)
    (hx : (x, instObj 85 dx) ∈ news) (hdx : (dx, ecn w.params trials st v2 td v3 ds dc u) ∈ news) (hds : (ds, os) ∈ news)
    (hos : os.IsDictOf (PySem.strKind prog w) kvs) (lo : (ds == sysModules) = false) (hv : SentAt news kvs sp z o) (hz : kvs.length ≤ 2)
    (hne : @Ne Nat x dx ∧ @Ne Nat x ds ∧ @Ne Nat dx ds)
    (hdp : dp + 3 < recursionLimit)
    (hret : ∀ (t' : Addr) (z' o' td' : Int) (st' : Str) (os' : Obj) (v2' v3' u1' u2' : Tok) (h' : Heap) (tk' : Nat), z' = z + cnt 2 mk → o' = o + cnt 1 mk → td' = td + cnt 2 mk + cnt 1 mk → st' = nextSt st td' trials → s.heap.get? t' = none → os'.IsDictOf (PySem.strKind prog w) (stored kvs sp (.ref t')) →
      Fr h₀ L h' m → News h₀ L h' [(t', tup2 z' o' u1' u2'), (dx, ecn w.params trials st' v2' td' v3' ds dc u), (ds, os')] → Kept [dx, ds] s.heap h' → Q .none { s with heap := h', toks := tk' }) :
    wpAny (model prog w) (ktrTop dp un gd cn cs L a ccd cl outer) (call (.ref 68) [.ref x, .str sp us, .int mk um]) Q E s := by
  rcases hv with ⟨hv, rfl, rfl⟩ | ⟨t, u1, u2, hv, ht⟩
  · exact on_sent_new B F X (news_sub N (List.forall_mem_cons.mpr ⟨hx, List.forall_mem_cons.mpr ⟨hdx, List.forall_mem_cons.mpr ⟨hds, List.forall_mem_nil _⟩⟩⟩)) T hk hos lo hv hz hne hdp hret
  · have apart : ∀ {y : Addr} {oy : Obj}, (y, oy) ∈ news → (∀ xs n, oy.data ≠ .seq xs n) → @Ne Nat y t := fun {y oy} hy hc e => by
      have e' : y = t := e
      subst e'
      have z1 := (N _ hy).1
      rw [(N _ ht).1] at z1
      cases z1
      exact hc _ _ rfl
    have hdc : ∀ xs n, os.data ≠ .seq xs n := by
      obtain ⟨es, ep, _, hd, _⟩ := hos
      intro xs n e
      rw [hd] at e
      cases e
    exact on_sent_old B F X (news_sub N (List.forall_mem_cons.mpr ⟨hx, List.forall_mem_cons.mpr ⟨hdx, List.forall_mem_cons.mpr ⟨hds, List.forall_mem_cons.mpr ⟨ht, List.forall_mem_nil _⟩⟩⟩⟩)) T hk hos lo hv hz
      ⟨hne.1, hne.2.1, apart hx (fun _ _ e => by cases e), hne.2.2, apart hdx (fun _ _ e => by cases e), apart hds hdc⟩ hdp hret

end
section
variable {prog : Program} {w : World} {p : Program} {loose : List Str} {mean : ExcName → Option Value} {mg mb : Str → Option Value}
  {dp un : Nat} {gd : Option (List Code)} {cn : Str} {cs : Scope} {a : Addr} {ccd : Value} {cl : List (Str × Addr)} {outer : List Env} {A₀ : Around} {base h₀ : Heap} {L : Addr} {m : Str → Option Value} {s : Shared} {Q E : Value → Shared → Prop}
section
variable {env : Env} {x : Str} {body : List Stmt} {A : Around} {Q : Flow → Shared → Prop}
/-- a loop over a list of ints of the ground, its turns told by a word of the ledger -/
theorem iter_led {l : Addr} {vs : List Value} {ns : List Int} {m₀ : Str → Option Value} {news : List (Addr × Obj)} (J : Nat → List (Addr × Obj) → Prop)
    (hh : A.handled = none) (hl : h₀.IsList l vs.toArray) (hi : IntsAre vs ns) (F : Fr h₀ env.locals s.heap m₀) (N : News h₀ env.locals s.heap news) (hj : J 0 news)
    (turn : ∀ i n t nx h tk own (Q' : Flow → Shared → Prop), ns[i]? = some n → TbOff own nx → J i nx → Fr h₀ env.locals h (fun y => if y = x then some (.int n t) else m₀ y) → News h₀ env.locals h (nx ++ own) →
      (∀ nx' h' tk' u', J (i + 1) nx' → TbOff own nx' → News h₀ env.locals h' (nx' ++ own) → Fr h₀ env.locals h' (fun y => if y = x then u' else m₀ y) → Q' .next { s with heap := h', toks := tk' }) →
      wpAny (model prog w) A (execs body env) Q' E { s with heap := h, toks := tk })
    (done : ∀ nx h tk u, J ns.length nx → Fr h₀ env.locals h (fun y => if y = x then u else m₀ y) → News h₀ env.locals h nx → Q .next { s with heap := h, toks := tk }) :
    wpAny (model prog w) A (pyIter (.ref l)) (fun it s₂ => LoopAtV prog w A h₀ env x body Q E it s₂) E s := by
  refine tb_invG (fun i m₁ nx => J i nx ∧ ∃ u, m₁ = fun y => if y = x then u else m₀ y) hh hl hi F N ⟨hj, m₀ x, ?_⟩ ?_ ?_
  · funext y
    by_cases e : y = x
    · simp [e]
    · simp [e]
  · rintro i n t m₁ nx h tk own hn hoff ⟨hJ, u, rfl⟩ F₁ N₁
    have e : (fun y => if y = x then some (Value.int n t) else (fun y => if y = x then u else m₀ y) y) = fun y => if y = x then some (Value.int n t) else m₀ y := by
      funext y
      by_cases e : y = x
      · simp [e]
      · simp [e]
    rw [e] at F₁
    refine turn i n t nx h tk own _ hn hoff hJ F₁ N₁ fun nx' h' tk' u' hJ' hoff' N' F' => ?_
    exact ⟨h', tk', _, nx' ++ own, nx', rfl, F', N', fun p hp => List.mem_append.mpr (.inl hp), fun p hp => List.mem_append.mpr (.inr hp), hoff', hJ', u', rfl⟩
  · rintro m₁ nx h tk ⟨hJ, u, rfl⟩ F₁ N₁
    exact done nx h tk u hJ F₁ N₁
end

theorem beg_iter {l : Addr} {vs : List Value} {ns : List Int} {m₀ : Str → Option Value} {news : List (Addr × Obj)} {x dx ds dc : Addr} {trials td0 : Int} {st0 sp : Str} {ts v2 v3 : Tok} {u : ETok} {oS : Obj} {kvs0 : List (Str × Value)} {g1 : Obj → List (Addr × Obj)} {g2 : Obj → Obj → List (Addr × Obj)} {body : List Stmt} {Q : Flow → Shared → Prop}
    (B : Below A₀ base outer h₀) (F : Fr h₀ L s.heap m₀) (X : (hd.heap_39 w.params).In h₀) (N : News h₀ L s.heap news) (T : Top p loose mean mg mb h₀) (hk : cs.kind = .function)
    (hl : h₀.IsList l vs.toArray) (hi : IntsAre vs ns) (hn : ns ≠ [])
    (hx : (x, instObj 85 dx) ∈ news) (hsp : m₀ (Str.ofString "space") = some (.str sp ts)) (hst0 : st0 = stOf trials td0) (U1 : UpdF dx (ecn w.params trials st0 v2 td0 v3 ds dc u) news g1) (U2 : ∀ o', UpdF ds oS (g1 o') (g2 o'))
    (hos : oS.IsDictOf (PySem.strKind prog w) kvs0) (lo : (ds == sysModules) = false) (hv0 : valueAt kvs0 sp = none) (hz : kvs0.length ≤ 1)
    (hne : @Ne Nat x dx ∧ @Ne Nat x ds ∧ @Ne Nat dx ds) (hdp : dp + 3 < recursionLimit)
    (hbody : ∀ (n : Int) (t : Tok) (h : Heap) (tk : Nat) (st : Str) (td : Int) (v2 v3 : Tok) (Q' : Flow → Shared → Prop), Fr h₀ L h (fun y => if y = Str.ofString "mark" then some (.int n t) else m₀ y) → News h₀ L h [(x, instObj 85 dx), (dx, ecn w.params trials st v2 td v3 ds dc u)] →
      (∀ tk', wpAny (model prog w) (ktrTop dp un gd cn cs L a ccd cl outer) (call (.ref 68) [.ref x, .str sp ts, .int n t]) (fun _ s' => ∀ tk2, Q' .next { s' with toks := tk2 }) E { s with heap := h, toks := tk' }) →
      wpAny (model prog w) (ktrTop dp un gd cn cs L a ccd cl outer) (execs body (envX cn cs L a ccd cl)) Q' E { s with heap := h, toks := tk })
    (done : ∀ (t' : Addr) (z o td : Int) (v2' v3' : Tok) (oS' : Obj) (u1 u2 : Tok) (h : Heap) (tk : Nat) (uu : Option Value), z = cntL 2 ns → o = cntL 1 ns → td = td0 + z + o → AllNe t' news → oS'.IsDictOf (PySem.strKind prog w) (stored kvs0 sp (.ref t')) →
      Fr h₀ L h (fun y => if y = Str.ofString "mark" then uu else m₀ y) → News h₀ L h ((t', tup2 z o u1 u2) :: g2 (ecn w.params trials (stOf trials td) v2' td v3' ds dc u) oS') → Q .next { s with heap := h, toks := tk }) :
    wpAny (model prog w) (ktrTop dp un gd cn cs L a ccd cl outer) (pyIter (.ref l)) (fun it s₂ => LoopAtV prog w (ktrTop dp un gd cn cs L a ccd cl outer) h₀ (envX cn cs L a ccd cl) (Str.ofString "mark") body Q E it s₂) E s := by
  subst hst0
  obtain ⟨n1, n2, n3⟩ := hne
  have hds := second_in U1 U2 (fun e => n3 e.symm)
  have hdx := (updF_rest U1).1
  refine iter_led (fun i nx => ∃ (td z o : Int) (v2 v3 : Tok) (oS : Obj) (kvs : List (Str × Value)), z = cntL 2 (ns.take i) ∧ o = cntL 1 (ns.take i) ∧ td = td0 + z + o ∧
      ((i = 0 ∧ kvs = kvs0) ∨ ∃ t u1 u2, kvs = stored kvs0 sp (.ref t) ∧ AllNe t news ∧ (t, tup2 z o u1 u2) ∈ nx) ∧ oS.IsDictOf (PySem.strKind prog w) kvs ∧ (x, instObj 85 dx) ∈ nx ∧ (dx, ecn w.params trials (stOf trials td) v2 td v3 ds dc u) ∈ nx ∧ (ds, oS) ∈ nx ∧
      ∀ p ∈ news, p.1 = dx ∨ p.1 = ds ∨ p ∈ nx) rfl hl hi F N ?_ ?_ ?_
  · exact ⟨td0, 0, 0, v2, v3, oS, kvs0, rfl, rfl, by omega, .inl ⟨rfl, rfl⟩, hos, hx, hdx, hds, fun p hp => .inr (.inr hp)⟩
  · rintro i n t nx h tk own Q' hin hoff ⟨td, z, o, v2, v3, oS, kvs, hz1, ho1, htd, hkv, hd, mx, mdx, mds, mall⟩ F₁ N₁ hq
    have N₂ : News h₀ L h nx := fun p hp => N₁ p (List.mem_append.mpr (.inl hp))
    refine hbody n t h tk _ td v2 v3 Q' F₁ (news_sub N₂ (List.forall_mem_cons.mpr ⟨mx, List.forall_mem_cons.mpr ⟨mdx, List.forall_mem_nil _⟩⟩)) fun tk' => ?_
    have hS : SentAt nx kvs sp z o := by
      rcases hkv with ⟨rfl, rfl⟩ | ⟨t, u1, u2, rfl, _, ht⟩
      · exact .inl ⟨hv0, by simpa [cntL] using hz1, by simpa [cntL] using ho1⟩
      · exact .inr ⟨t, u1, u2, valueAt_stored, ht⟩
    have hlen : kvs.length ≤ 2 := by
      rcases hkv with ⟨rfl, rfl⟩ | ⟨t, u1, u2, rfl, _, ht⟩
      · omega
      · exact Nat.le_trans stored_len (by omega)
    refine on_sent_spec (s := { s with heap := h, toks := tk' }) B F₁ X N₂ T hk mx mdx mds hd lo hS hlen ⟨n1, n2, n3⟩ hdp fun t' z' o' td' st' os' v2' v3' u1' u2' h' tk2 e1 e2 e3 e4 e5 e6 F' N' K tk3 => ?_
    have fr : ∀ p : Addr × Obj, h.get? p.1 = some p.2 → p.1 ≠ t' := fun p e q => by
      rw [q] at e
      have e5' : h.get? t' = none := e5
      rw [e5'] at e
      cases e
    refine hq ((t', tup2 z' o' u1' u2') :: (dx, ecn w.params trials st' v2' td' v3' ds dc u) :: (ds, os') :: nx.filter (fun p => decide (p.1 ≠ dx) && decide (p.1 ≠ ds))) h' tk3 _ ?_ ?_ ?_ F'
    · have fm : ∀ p ∈ nx, p.1 ≠ dx → p.1 ≠ ds → p ∈ ((t', tup2 z' o' u1' u2') :: (dx, ecn w.params trials st' v2' td' v3' ds dc u) :: (ds, os') :: nx.filter (fun p => decide (p.1 ≠ dx) && decide (p.1 ≠ ds))) := fun p hp h1 h2 =>
        .tail _ (.tail _ (.tail _ (List.mem_filter.mpr ⟨hp, by simp [h1, h2]⟩)))
      have hst : st' = stOf trials td' := e4.trans (nextSt_stOf (by have h1 := cnt_nonneg 2 n; have h2 := cnt_nonneg 1 n; omega))
      subst hst
      refine ⟨td', z', o', v2', v3', os', _, by rw [e1, hz1, cntL_take_succ hin], by rw [e2, ho1, cntL_take_succ hin], by omega, .inr ⟨t', u1', u2', ?_, ?_, .head _⟩, e6, fm _ mx n1 n2, .tail _ (.head _), .tail _ (.tail _ (.head _)), fun p hp => ?_⟩
      · rcases hkv with ⟨_, rfl⟩ | ⟨t, _, _, rfl, _, _⟩
        · rfl
        · exact stored_stored
      · refine allNe_mk fun p hp => ?_
        rcases mall p hp with e | e | e
        · rw [e]; exact fr (dx, _) (N₂ _ mdx).1
        · rw [e]; exact fr (ds, _) (N₂ _ mds).1
        · exact fr p (N₂ _ e).1
      · rcases mall p hp with e | e | e
        · exact .inl e
        · exact .inr (.inl e)
        · by_cases h1 : p.1 = dx
          · exact .inl h1
          · by_cases h2 : p.1 = ds
            · exact .inr (.inl h2)
            · exact .inr (.inr (fm p e h1 h2))
    · intro p hp q hq'
      rcases List.mem_cons.mp hq' with rfl | hq'
      · exact fr p (N₁ p (List.mem_append.mpr (.inr hp))).1
      · rcases List.mem_cons.mp hq' with rfl | hq'
        · have zz := hoff p hp _ mdx; exact zz
        · rcases List.mem_cons.mp hq' with rfl | hq'
          · have zz := hoff p hp _ mds; exact zz
          · exact hoff p hp q (List.mem_filter.mp hq').1
    · refine news_frame N₁ N' K _ fun p hp => ?_
      rcases List.mem_append.mp hp with hp | hp
      · rcases List.mem_cons.mp hp with rfl | hp
        · exact .inl (.head _)
        · rcases List.mem_cons.mp hp with rfl | hp
          · exact .inl (.tail _ (.head _))
          · rcases List.mem_cons.mp hp with rfl | hp
            · exact .inl (.tail _ (.tail _ (.head _)))
            · obtain ⟨h1, h2⟩ := List.mem_filter.mp hp
              exact .inr ⟨List.mem_append.mpr (.inl h1), by simpa using h2⟩
      · exact .inr ⟨List.mem_append.mpr (.inr hp), by simp only [List.mem_cons, List.not_mem_nil, or_false, not_or]; exact ⟨hoff p hp _ mdx, hoff p hp _ mds⟩⟩
  · rintro nx h tk uu ⟨td, z, o, v2, v3, oS, kvs, hz1, ho1, htd, hkv, hd, mx, mdx, mds, mall⟩ F₁ N₁
    rw [List.take_length] at hz1 ho1
    rcases hkv with ⟨h0, _⟩ | ⟨t, u1, u2, rfl, hne', ht⟩
    · exact absurd (List.eq_nil_of_length_eq_zero h0) hn
    · refine done t z o td v2 v3 oS u1 u2 h tk uu hz1 ho1 htd hne' hd F₁ (news_sub N₁ fun p hp => ?_)
      rcases List.mem_cons.mp hp with rfl | hp
      · exact ht
      · rcases (updF_rest (U2 _)).2 _ p hp with rfl | ⟨h1, h2⟩
        · exact mds
        · rcases (updF_rest U1).2 _ p h1 with rfl | ⟨h3, h4⟩
          · exact mdx
          · rcases mall p h3 with e | e | e
            · exact absurd e h4
            · exact absurd e h2
            · exact e

end
section
variable {prog : Program} {w : World} {p : Program} {loose : List Str} {mean : ExcName → Option Value} {mg mb : Str → Option Value}
  {dp un : Nat} {gd : Option (List Code)} {cn : Str} {cs : Scope} {a : Addr} {ccd : Value} {cl : List (Str × Addr)} {outer : List Env} {A₀ : Around} {base h₀ : Heap} {L : Addr} {m : Str → Option Value} {s : Shared} {Q E : Value → Shared → Prop}
local macro_rules | `(tactic| walk_at "exec For") => `(tactic| (k_here; (with_reducible show wpAny _ _ (exec (Stmt.For (Expr.Name _ _) (Expr.Subscript _ _ _) _ _ _) _) _ _ _); (rename Fr _ _ _ _ => lF'); (with_unfolding_all apply For_invVF lF'; exact rfl; exact rfl; k_whole)))
local macro_rules | `(tactic| walk_at "pyIter ref") => `(tactic| (k_here; k_dflt (refine' beg_iter (u := ⟨_, _, _, _, _, _, _, _⟩) ?B ?F ?X ?N ?T ?hk ?hl ?hi ?hn ?hx ?hsp ?hst ?U1 ?U2 ?hos ?lo ?hv0 ?hz ?hne ?hdp ?_ ?_; (case B => k_asm); (case F => k_asm); (case X => k_asm); (case N => k_asm); (case T => k_asm); (case hk => first | exact rfl | assumption); (case hl => assumption); (case hi => assumption); (case hn => assumption); (case hx => k_mem); (case hsp => exact rfl); (case U1 => k_updF); (case U2 => (intro o9; k_updF)); (case hst => first | exact rfl | exact (if_neg (by omega)).symm); (case hos => k_asm); (case lo => k_asm); (case hv0 => rfl); (case hz => exact Nat.le_of_ble_eq_true rfl); (case hne => exact ⟨by k_ne, by k_ne, by k_ne⟩); (case hdp => ktr_room)); intro n9 t9 h9 tk9 st9 td9 v29 v39 Q9 F9 N9 hC9; (try dsimp only); rotate_left; intro t9 z9 o9 td9 v29 v39 oS9 u19 u29 h9 tk9 uu9 e19 e29 e39 e49 e59 F9 N9; (try (simp only [AllNe, and_true] at e49; repeat (have hdf := And.left e49; replace e49 := And.right e49))); (try dsimp only at N9); (try dsimp only); rotate_right))
@[reducible] def stopsBeg (n : Nat) : Prop := n = 68
local macro_rules | `(tactic| walk_at "call ref") => `(tactic| k_dflt (refine stopCall (P := stopsBeg) (by decide) ?_))
theorem beg_core {sd l1 l2 : Addr} {trials : Int} {tt : Tok} {os : Obj} {kvs : List (Str × Value)} {vs1 vs2 : List Value} {ns1 ns2 : List Int}
    (B : Below A₀ base outer h₀) (F : Fr h₀ L s.heap m) (X : (hd.heap_39 w.params).In h₀) (N : News h₀ L s.heap [(sd, os)]) (T : Top p loose mean mg mb h₀) (hk : cs.kind = .function)
    (hos : os.IsDictOf (PySem.strKind prog w) kvs) (lo : (sd == sysModules) = false) (hv1 : valueAt kvs (Str.ofString "one") = some (.ref l1)) (hv2 : valueAt kvs (Str.ofString "two") = some (.ref l2))
    (hL1 : s.heap.IsList l1 vs1.toArray) (hL2 : s.heap.IsList l2 vs2.toArray) (hI1 : IntsAre vs1 ns1) (hI2 : IntsAre vs2 ns2) (hn1 : ns1 ≠ []) (hn2 : ns2 ≠ []) (hne : @Ne Nat sd l1 ∧ @Ne Nat sd l2)
    (hdp : dp + 4 < recursionLimit) (ht0 : 1 ≤ trials)
    (hret : ∀ (x dx ds dc t1 t2 : Addr) (oS oC : Obj) (z1 o1 z2 o2 td : Int) (v2 v3 a1 a2 a3 a4 : Tok) (u : ETok) (h' : Heap) (tk' : Nat), z1 = cntL 2 ns1 → o1 = cntL 1 ns1 → z2 = cntL 2 ns2 → o2 = cntL 1 ns2 → td = 0 + z1 + o1 + z2 + o2 →
      (∀ d ∈ [x, dx, ds, dc, t1, t2], s.heap.get? d = none) → Apart [x, dx, ds, dc, t1, t2] → (ds == sysModules) = false → (dc == sysModules) = false → oS.IsDictOf (PySem.strKind prog w) (stored (stored [] (Str.ofString "one") (.ref t1)) (Str.ofString "two") (.ref t2)) → oC.IsDictOf (PySem.strKind prog w) [] →
      Fr h₀ L h' m → News h₀ L h' [(x, instObj 85 dx), (dx, ecn w.params trials (stOf trials td) v2 td v3 ds dc u), (ds, oS), (dc, oC), (t1, tup2 z1 o1 a1 a2), (t2, tup2 z2 o2 a3 a4)] → Kept [] s.heap h' → Q (.ref x) { s with heap := h', toks := tk' }) :
    wpAny (model prog w) (ktrTop dp un gd cn cs L a ccd cl outer) (call (.ref 108) [.ref sd, .int trials tt]) Q E s := by
  obtain ⟨n1, n2⟩ := hne
  refine wpAny_call ?_
  k_dflt cell_enter
  rename GSub (Shared.heap s) _ _ => kG
  have hB1 : Heap.IsList _ l1 vs1.toArray := hL1.at fun o e => kG l1 o e (by simp; exact fun q => n1 q.symm)
  have hB2 : Heap.IsList _ l2 vs2.toArray := hL2.at fun o e => kG l2 o e (by simp; exact fun q => n2 q.symm)
  repeat' (first | ((with_reducible refine go ?_); (first | ((k_here; (with_reducible show wpAny _ _ (call (Value.ref 68) _) _ _ _); (rename (∀ _ : Nat, wpAny _ _ _ _ _ _) => hC); refine wpAny_mono (hC _) ?_ (fun _ _ e9 => e9); intro v9 s9 hq9; (try dsimp only))))) | (k_unfold; (try dsimp only)) | (k_end; kc_close) | walk1 | (dsimp only; walk1) | (leave1; (try dsimp only)) | fail "no step")
  all_goals first
    | ((rename (∀ _ : Nat, _) => hq); exact hq _)
    | (refine' hret _ _ _ _ _ _ _ _ _ _ _ _ _ _ _ _ _ _ _ ⟨_, _, _, _, _, _, _, _⟩ _ _ ?e1 ?e2 ?e3 ?e4 ?e5 ?e6 ?e7 ?e8 ?e9 ?e10 ?e11 ?e12 ?e13 ?e14
       case e10 => assumption
       case e12 => assumption
       case e13 => exact news_sub (by assumption) (by lcg_sub)
       case e8 => assumption
       case e9 => assumption
       case e11 => assumption
       case e1 => assumption
       case e2 => assumption
       case e3 => assumption
       case e4 => assumption
       case e5 => omega
       case e6 =>
         have fz : ∀ {t : Addr} {o : Obj}, _ → t ∉ [sd] → s.heap.get? t = none := fun {t o} hm hn => fresh_of (o := o) kG (by assumption) hm hn
         refine List.forall_mem_cons.mpr ⟨fz (by k_mem) (not_mem_of_ne (by walk_at "my fresh")), List.forall_mem_cons.mpr ⟨fz (by k_mem) (not_mem_of_ne (by walk_at "my fresh")), List.forall_mem_cons.mpr ⟨fz (by k_mem) (not_mem_of_ne (by walk_at "my fresh")), List.forall_mem_cons.mpr ⟨fz (by k_mem) (not_mem_of_ne (by walk_at "my fresh")), List.forall_mem_cons.mpr ⟨fz (by k_mem) (not_mem_of_ne (by walk_at "my fresh")), List.forall_mem_cons.mpr ⟨fz (by k_mem) (not_mem_of_ne (by walk_at "my fresh")), List.forall_mem_nil _⟩⟩⟩⟩⟩⟩
       case e7 => simp only [Apart, NeAll]; walk_at "my apart"
       case e14 => exact kept_of kG (by assumption) N (by assumption) (by walk_at "my kept"))
    | skip


end
section
variable {prog : Program} {w : World} {p : Program} {loose : List Str} {mean : ExcName → Option Value} {mg mb : Str → Option Value}
  {dp un : Nat} {gd : Option (List Code)} {cn : Str} {cs : Scope} {a : Addr} {ccd : Value} {cl : List (Str × Addr)} {outer : List Env} {A₀ : Around} {base h₀ : Heap} {L : Addr} {m : Str → Option Value} {s : Shared} {Q E : Value → Shared → Prop}
local macro_rules | `(tactic| walk_at "pad") => `(tactic| skip)
local macro_rules | `(tactic| walk_at "ite") => `(tactic| (k_here; k_dflt (refine ite_neg (not_true_of_false (by with_reducible assumption)) ?_)))
local macro_rules | `(tactic| walk_at "getMethod ref") => `(tactic| ((with_reducible show wpAny _ _ (getMethod (Value.ref _) (Str.ofString "count") _) _ _ _); with_unfolding_all refine getMethod_list_of PySem.F.slot_list_count PySem.F.type_list_count (by is_list) (by no_dict) ?_))

@[reducible] def stopsAck (n : Nat) : Prop := n = 26
local macro_rules | `(tactic| walk_at "call ref") => `(tactic| k_dflt (refine stopCall (P := stopsAck) (by decide) ?_))
theorem ack_some_new {x dx ds dc t kc lm : Addr} {trials td : Int} {st sp : Str} {v2 v3 : Tok} {u : ETok} {oS oC : Obj} {kvs ckvs : List (Str × Value)} {z o zb ob cb zc oc cc : Int} {u1 u2 u3 u4 u5 u6 u7 u8 us : Tok} {vs : List Value} {ns : List Int} {nl : Nat}
    (B : Below A₀ base outer h₀) (F : Fr h₀ L s.heap m) (X : (hd.heap_39 w.params).In h₀) (N : News h₀ L s.heap [(x, instObj 85 dx), (dx, ecn w.params trials st v2 td v3 ds dc u), (ds, oS), (dc, oC), (t, tup2 z o u1 u2), (kc, tup3 zc oc cc u3 u4 u5), (lm, listOf vs.toArray nl)]) (T : Top p loose mean mg mb h₀) (hk : cs.kind = .function)
    (hoS : oS.IsDictOf (PySem.strKind prog w) kvs) (hoC : oC.IsDictOf (PySem.strKind prog w) ckvs) (lo : (ds == sysModules) = false) (lo2 : (dc == sysModules) = false) (hv : valueAt kvs sp = some (.ref t)) (hvc : valueAt ckvs sp = none) (hz : ckvs.length ≤ 2)
    (hst : (st == Str.ofString "failed") = false) (hI : IntsAre vs ns) (hap : NeAll dx [x, ds, dc, t, kc, lm] ∧ NeAll dc [x, ds, t, kc, lm]) (hdp : dp + 4 < recursionLimit)
    (hbad : ∀ (v2' tr : Tok) (h' : Heap) (tk' : Nat), ¬ (0 ≤ zc ∧ 0 ≤ oc ∧ 0 ≤ cc ∧ (ns.count 2 : Int) ≤ zc - 0 + (cc - 0) ∧ (ns.count 1 : Int) ≤ oc - 0 + (cc - 0) ∧ (ns.count 2 : Int) + (ns.count 1 : Int) ≤ zc - 0 + (oc - 0) + (cc - 0) ∧ zc ≤ z ∧ oc ≤ o ∧ zc + oc + cc ≤ z + o) → Fr h₀ L h' m → News h₀ L h' [(dx, ecn w.params trials (Str.ofString "failed") v2' td v3 ds dc u)] → Kept [dx] s.heap h' → Q (.int 0 tr) { s with heap := h', toks := tk' })
    (hok : ∀ (st' : Str) (oC' : Obj) (v2' tr : Tok) (h' : Heap) (tk' : Nat), 0 ≤ zc → 0 ≤ oc → 0 ≤ cc → (ns.count 2 : Int) ≤ zc - 0 + (cc - 0) → (ns.count 1 : Int) ≤ oc - 0 + (cc - 0) → (ns.count 2 : Int) + (ns.count 1 : Int) ≤ zc - 0 + (oc - 0) + (cc - 0) → zc ≤ z → oc ≤ o → zc + oc + cc ≤ z + o → st' = ackSt st ((ns.count 2 : Int) + (ns.count 1 : Int)) → oC'.IsDictOf (PySem.strKind prog w) (stored ckvs sp (.ref kc)) → Fr h₀ L h' m → News h₀ L h' [(dx, ecn w.params trials st' v2' td v3 ds dc u), (dc, oC')] → Kept [dx, dc] s.heap h' → Q (.int (cc - 0) tr) { s with heap := h', toks := tk' }) :
    wpAny (model prog w) (ktrTop dp un gd cn cs L a ccd cl outer) (call (.ref 82) [.ref x, .str sp us, .ref kc, .ref lm, .bool true]) Q E s := by
  simp only [NeAll, and_true, and_assoc] at hap
  repeat (have hdf := And.left hap; replace hap := And.right hap)
  refine wpAny_call ?_
  k_dflt cell_enter
  repeat' (first | ((with_reducible refine go ?_); (first | ((k_here; (with_reducible show wpAny _ _ (call (Value.ref 26) [_, Value.none, Value.ref _, Value.ref _]) _ _ _); k_dflt (apply fit_none; k_asm; k_asm; k_asm; (focus exact news_sub (by k_asm) (by lcg_sub)); k_asm; (first | exact rfl | assumption); (focus ktr_room)); intro h9 tk9 f1 F9 K9; (try dsimp only); (have N9 := news_keep (by with_reducible assumption) K9); rotate_left; intro h9 tk9 f1 F9 K9; (try dsimp only); (have N9 := news_keep (by with_reducible assumption) K9); rotate_right)) | ((k_here; (with_reducible show wpAny _ _ (call (Value.ref 26) [Value.ref _, Value.ref _, Value.ref _, Value.ref _]) _ _ _); k_dflt (apply fit_some; k_asm; k_asm; k_asm; (focus exact news_sub (by k_asm) (by lcg_sub)); k_asm; (first | exact rfl | assumption); (focus ktr_room)); intro h9 tk9 f1 f2 f3 f4 f5 f6 f7 f8 f9 F9 K9; (try dsimp only); (have N9 := news_keep (by with_reducible assumption) K9); rotate_left; intro h9 tk9 f1 F9 K9; (try dsimp only); (have N9 := news_keep (by with_reducible assumption) K9); rotate_right)))) | (k_unfold; (try dsimp only)) | (k_end; kc_close) | walk1 | (dsimp only; walk1) | (leave1; (try dsimp only)) | fail "no step")
  all_goals (rename GSub (Shared.heap s) _ _ => kG)
  all_goals first
    | (refine' hbad _ _ _ _ ?e1 ?e2 ?e3 ?e4
       case e1 => assumption
       case e2 => assumption
       case e3 => exact news_sub (by assumption) (by lcg_sub)
       case e4 => exact kept_of kG (by assumption) N (by assumption) (by walk_at "my kept"))
    | (refine' hok _ _ _ _ _ _ ?f1 ?f2 ?f3 ?f4 ?f5 ?f6 ?f7 ?f8 ?f9 ?e1 ?e2 ?e3 ?e4 ?e5
       case e2 => assumption
       case e3 => assumption
       case e4 => exact news_sub (by assumption) (by lcg_sub)
       case e1 => first | exact ackSt_pos (by assumption) | exact ackSt_neg (by assumption)
       case e5 => exact kept_of kG (by assumption) N (by assumption) (by walk_at "my kept")
       all_goals omega)

theorem ack_some_old {x dx ds dc t kc lm kb : Addr} {trials td : Int} {st sp : Str} {v2 v3 : Tok} {u : ETok} {oS oC : Obj} {kvs ckvs : List (Str × Value)} {z o zb ob cb zc oc cc : Int} {u1 u2 u3 u4 u5 u6 u7 u8 us : Tok} {vs : List Value} {ns : List Int} {nl : Nat}
    (B : Below A₀ base outer h₀) (F : Fr h₀ L s.heap m) (X : (hd.heap_39 w.params).In h₀) (N : News h₀ L s.heap [(x, instObj 85 dx), (dx, ecn w.params trials st v2 td v3 ds dc u), (ds, oS), (dc, oC), (t, tup2 z o u1 u2), (kc, tup3 zc oc cc u3 u4 u5), (lm, listOf vs.toArray nl), (kb, tup3 zb ob cb u6 u7 u8)]) (T : Top p loose mean mg mb h₀) (hk : cs.kind = .function)
    (hoS : oS.IsDictOf (PySem.strKind prog w) kvs) (hoC : oC.IsDictOf (PySem.strKind prog w) ckvs) (lo : (ds == sysModules) = false) (lo2 : (dc == sysModules) = false) (hv : valueAt kvs sp = some (.ref t)) (hvc : valueAt ckvs sp = some (.ref kb)) (hz : ckvs.length ≤ 2)
    (hst : (st == Str.ofString "failed") = false) (hI : IntsAre vs ns) (hap : NeAll dx [x, ds, dc, t, kc, lm, kb] ∧ NeAll dc [x, ds, t, kc, lm, kb]) (hdp : dp + 4 < recursionLimit)
    (hbad : ∀ (v2' tr : Tok) (h' : Heap) (tk' : Nat), ¬ (zb ≤ zc ∧ ob ≤ oc ∧ cb ≤ cc ∧ (ns.count 2 : Int) ≤ zc - zb + (cc - cb) ∧ (ns.count 1 : Int) ≤ oc - ob + (cc - cb) ∧ (ns.count 2 : Int) + (ns.count 1 : Int) ≤ zc - zb + (oc - ob) + (cc - cb) ∧ zc ≤ z ∧ oc ≤ o ∧ zc + oc + cc ≤ z + o) → Fr h₀ L h' m → News h₀ L h' [(dx, ecn w.params trials (Str.ofString "failed") v2' td v3 ds dc u)] → Kept [dx] s.heap h' → Q (.int 0 tr) { s with heap := h', toks := tk' })
    (hok : ∀ (st' : Str) (oC' : Obj) (v2' tr : Tok) (h' : Heap) (tk' : Nat), zb ≤ zc → ob ≤ oc → cb ≤ cc → (ns.count 2 : Int) ≤ zc - zb + (cc - cb) → (ns.count 1 : Int) ≤ oc - ob + (cc - cb) → (ns.count 2 : Int) + (ns.count 1 : Int) ≤ zc - zb + (oc - ob) + (cc - cb) → zc ≤ z → oc ≤ o → zc + oc + cc ≤ z + o → st' = ackSt st ((ns.count 2 : Int) + (ns.count 1 : Int)) → oC'.IsDictOf (PySem.strKind prog w) (stored ckvs sp (.ref kc)) → Fr h₀ L h' m → News h₀ L h' [(dx, ecn w.params trials st' v2' td v3 ds dc u), (dc, oC')] → Kept [dx, dc] s.heap h' → Q (.int (cc - cb) tr) { s with heap := h', toks := tk' }) :
    wpAny (model prog w) (ktrTop dp un gd cn cs L a ccd cl outer) (call (.ref 82) [.ref x, .str sp us, .ref kc, .ref lm, .bool true]) Q E s := by
  simp only [NeAll, and_true, and_assoc] at hap
  repeat (have hdf := And.left hap; replace hap := And.right hap)
  refine wpAny_call ?_
  k_dflt cell_enter
  repeat' (first | ((with_reducible refine go ?_); (first | ((k_here; (with_reducible show wpAny _ _ (call (Value.ref 26) [_, Value.none, Value.ref _, Value.ref _]) _ _ _); k_dflt (apply fit_none; k_asm; k_asm; k_asm; (focus exact news_sub (by k_asm) (by lcg_sub)); k_asm; (first | exact rfl | assumption); (focus ktr_room)); intro h9 tk9 f1 F9 K9; (try dsimp only); (have N9 := news_keep (by with_reducible assumption) K9); rotate_left; intro h9 tk9 f1 F9 K9; (try dsimp only); (have N9 := news_keep (by with_reducible assumption) K9); rotate_right)) | ((k_here; (with_reducible show wpAny _ _ (call (Value.ref 26) [Value.ref _, Value.ref _, Value.ref _, Value.ref _]) _ _ _); k_dflt (apply fit_some; k_asm; k_asm; k_asm; (focus exact news_sub (by k_asm) (by lcg_sub)); k_asm; (first | exact rfl | assumption); (focus ktr_room)); intro h9 tk9 f1 f2 f3 f4 f5 f6 f7 f8 f9 F9 K9; (try dsimp only); (have N9 := news_keep (by with_reducible assumption) K9); rotate_left; intro h9 tk9 f1 F9 K9; (try dsimp only); (have N9 := news_keep (by with_reducible assumption) K9); rotate_right)))) | (k_unfold; (try dsimp only)) | (k_end; kc_close) | walk1 | (dsimp only; walk1) | (leave1; (try dsimp only)) | fail "no step")
  all_goals (rename GSub (Shared.heap s) _ _ => kG)
  all_goals first
    | (refine' hbad _ _ _ _ ?e1 ?e2 ?e3 ?e4
       case e1 => assumption
       case e2 => assumption
       case e3 => exact news_sub (by assumption) (by lcg_sub)
       case e4 => exact kept_of kG (by assumption) N (by assumption) (by walk_at "my kept"))
    | (refine' hok _ _ _ _ _ _ ?f1 ?f2 ?f3 ?f4 ?f5 ?f6 ?f7 ?f8 ?f9 ?e1 ?e2 ?e3 ?e4 ?e5
       case e2 => assumption
       case e3 => assumption
       case e4 => exact news_sub (by assumption) (by lcg_sub)
       case e1 => first | exact ackSt_pos (by assumption) | exact ackSt_neg (by assumption)
       case e5 => exact kept_of kG (by assumption) N (by assumption) (by walk_at "my kept")
       all_goals omega)

theorem ack_none_new {x dx ds dc t lm : Addr} {trials td : Int} {st sp : Str} {v2 v3 : Tok} {u : ETok} {oS oC : Obj} {kvs ckvs : List (Str × Value)} {z o zb ob cb zc oc cc : Int} {u1 u2 u3 u4 u5 u6 u7 u8 us : Tok} {vs : List Value} {ns : List Int} {nl : Nat}
    (B : Below A₀ base outer h₀) (F : Fr h₀ L s.heap m) (X : (hd.heap_39 w.params).In h₀) (N : News h₀ L s.heap [(x, instObj 85 dx), (dx, ecn w.params trials st v2 td v3 ds dc u), (ds, oS), (dc, oC), (t, tup2 z o u1 u2), (lm, listOf vs.toArray nl)]) (T : Top p loose mean mg mb h₀) (hk : cs.kind = .function)
    (hoS : oS.IsDictOf (PySem.strKind prog w) kvs) (hoC : oC.IsDictOf (PySem.strKind prog w) ckvs) (lo : (ds == sysModules) = false) (lo2 : (dc == sysModules) = false) (hv : valueAt kvs sp = some (.ref t)) (hvc : valueAt ckvs sp = none) (hz : ckvs.length ≤ 2)
    (hst : (st == Str.ofString "failed") = false) (hI : IntsAre vs ns) (hap : NeAll dx [x, ds, dc, t, lm] ∧ NeAll dc [x, ds, t, lm]) (hdp : dp + 4 < recursionLimit)
    (hbad : ∀ (v2' tr : Tok) (h' : Heap) (tk' : Nat), ¬ ((ns.count 2 : Int) + (ns.count 1 : Int) = 0) → Fr h₀ L h' m → News h₀ L h' [(dx, ecn w.params trials (Str.ofString "failed") v2' td v3 ds dc u)] → Kept [dx] s.heap h' → Q (.int 0 tr) { s with heap := h', toks := tk' })
    (hok : ∀ (tr : Tok) (h' : Heap) (tk' : Nat), (ns.count 2 : Int) + (ns.count 1 : Int) = 0 → Fr h₀ L h' m → Kept [] s.heap h' → Q (.int 0 tr) { s with heap := h', toks := tk' }) :
    wpAny (model prog w) (ktrTop dp un gd cn cs L a ccd cl outer) (call (.ref 82) [.ref x, .str sp us, .none, .ref lm, .bool true]) Q E s := by
  simp only [NeAll, and_true, and_assoc] at hap
  repeat (have hdf := And.left hap; replace hap := And.right hap)
  refine wpAny_call ?_
  k_dflt cell_enter
  repeat' (first | ((with_reducible refine go ?_); (first | ((k_here; (with_reducible show wpAny _ _ (call (Value.ref 26) [_, Value.none, Value.ref _, Value.ref _]) _ _ _); k_dflt (apply fit_none; k_asm; k_asm; k_asm; (focus exact news_sub (by k_asm) (by lcg_sub)); k_asm; (first | exact rfl | assumption); (focus ktr_room)); intro h9 tk9 f1 F9 K9; (try dsimp only); (have N9 := news_keep (by with_reducible assumption) K9); rotate_left; intro h9 tk9 f1 F9 K9; (try dsimp only); (have N9 := news_keep (by with_reducible assumption) K9); rotate_right)) | ((k_here; (with_reducible show wpAny _ _ (call (Value.ref 26) [Value.ref _, Value.ref _, Value.ref _, Value.ref _]) _ _ _); k_dflt (apply fit_some; k_asm; k_asm; k_asm; (focus exact news_sub (by k_asm) (by lcg_sub)); k_asm; (first | exact rfl | assumption); (focus ktr_room)); intro h9 tk9 f1 f2 f3 f4 f5 f6 f7 f8 f9 F9 K9; (try dsimp only); (have N9 := news_keep (by with_reducible assumption) K9); rotate_left; intro h9 tk9 f1 F9 K9; (try dsimp only); (have N9 := news_keep (by with_reducible assumption) K9); rotate_right)))) | (k_unfold; (try dsimp only)) | (k_end; kc_close) | walk1 | (dsimp only; walk1) | (leave1; (try dsimp only)) | fail "no step")
  all_goals (rename GSub (Shared.heap s) _ _ => kG)
  all_goals first
    | (refine' hbad _ _ _ _ ?e1 ?e2 ?e3 ?e4
       case e1 => assumption
       case e2 => assumption
       case e3 => exact news_sub (by assumption) (by lcg_sub)
       case e4 => exact kept_of kG (by assumption) N (by assumption) (by walk_at "my kept"))
    | (refine' hok _ _ _ ?f1 ?e2 ?e5
       case e2 => assumption
       case e5 => exact kept_of kG (by assumption) N (by assumption) (by walk_at "my kept")
       case f1 => omega)

theorem ack_none_old {x dx ds dc t lm : Addr} {vb : Value} {trials td : Int} {st sp : Str} {v2 v3 : Tok} {u : ETok} {oS oC : Obj} {kvs ckvs : List (Str × Value)} {z o zb ob cb zc oc cc : Int} {u1 u2 u3 u4 u5 u6 u7 u8 us : Tok} {vs : List Value} {ns : List Int} {nl : Nat}
    (B : Below A₀ base outer h₀) (F : Fr h₀ L s.heap m) (X : (hd.heap_39 w.params).In h₀) (N : News h₀ L s.heap [(x, instObj 85 dx), (dx, ecn w.params trials st v2 td v3 ds dc u), (ds, oS), (dc, oC), (t, tup2 z o u1 u2), (lm, listOf vs.toArray nl)]) (T : Top p loose mean mg mb h₀) (hk : cs.kind = .function)
    (hoS : oS.IsDictOf (PySem.strKind prog w) kvs) (hoC : oC.IsDictOf (PySem.strKind prog w) ckvs) (lo : (ds == sysModules) = false) (lo2 : (dc == sysModules) = false) (hv : valueAt kvs sp = some (.ref t)) (hvc : valueAt ckvs sp = some vb) (hz : ckvs.length ≤ 2)
    (hst : (st == Str.ofString "failed") = false) (hI : IntsAre vs ns) (hap : NeAll dx [x, ds, dc, t, lm] ∧ NeAll dc [x, ds, t, lm]) (hdp : dp + 4 < recursionLimit)
    (hbad : ∀ (v2' tr : Tok) (h' : Heap) (tk' : Nat), ¬ ((ns.count 2 : Int) + (ns.count 1 : Int) = 0) → Fr h₀ L h' m → News h₀ L h' [(dx, ecn w.params trials (Str.ofString "failed") v2' td v3 ds dc u)] → Kept [dx] s.heap h' → Q (.int 0 tr) { s with heap := h', toks := tk' })
    (hok : ∀ (tr : Tok) (h' : Heap) (tk' : Nat), (ns.count 2 : Int) + (ns.count 1 : Int) = 0 → Fr h₀ L h' m → Kept [] s.heap h' → Q (.int 0 tr) { s with heap := h', toks := tk' }) :
    wpAny (model prog w) (ktrTop dp un gd cn cs L a ccd cl outer) (call (.ref 82) [.ref x, .str sp us, .none, .ref lm, .bool true]) Q E s := by
  simp only [NeAll, and_true, and_assoc] at hap
  repeat (have hdf := And.left hap; replace hap := And.right hap)
  refine wpAny_call ?_
  k_dflt cell_enter
  repeat' (first | ((with_reducible refine go ?_); (first | ((k_here; (with_reducible show wpAny _ _ (call (Value.ref 26) [_, Value.none, Value.ref _, Value.ref _]) _ _ _); k_dflt (apply fit_none; k_asm; k_asm; k_asm; (focus exact news_sub (by k_asm) (by lcg_sub)); k_asm; (first | exact rfl | assumption); (focus ktr_room)); intro h9 tk9 f1 F9 K9; (try dsimp only); (have N9 := news_keep (by with_reducible assumption) K9); rotate_left; intro h9 tk9 f1 F9 K9; (try dsimp only); (have N9 := news_keep (by with_reducible assumption) K9); rotate_right)) | ((k_here; (with_reducible show wpAny _ _ (call (Value.ref 26) [Value.ref _, Value.ref _, Value.ref _, Value.ref _]) _ _ _); k_dflt (apply fit_some; k_asm; k_asm; k_asm; (focus exact news_sub (by k_asm) (by lcg_sub)); k_asm; (first | exact rfl | assumption); (focus ktr_room)); intro h9 tk9 f1 f2 f3 f4 f5 f6 f7 f8 f9 F9 K9; (try dsimp only); (have N9 := news_keep (by with_reducible assumption) K9); rotate_left; intro h9 tk9 f1 F9 K9; (try dsimp only); (have N9 := news_keep (by with_reducible assumption) K9); rotate_right)))) | (k_unfold; (try dsimp only)) | (k_end; kc_close) | walk1 | (dsimp only; walk1) | (leave1; (try dsimp only)) | fail "no step")
  all_goals (rename GSub (Shared.heap s) _ _ => kG)
  all_goals first
    | (refine' hbad _ _ _ _ ?e1 ?e2 ?e3 ?e4
       case e1 => assumption
       case e2 => assumption
       case e3 => exact news_sub (by assumption) (by lcg_sub)
       case e4 => exact kept_of kG (by assumption) N (by assumption) (by walk_at "my kept"))
    | (refine' hok _ _ _ ?f1 ?e2 ?e5
       case e2 => assumption
       case e5 => exact kept_of kG (by assumption) N (by assumption) (by walk_at "my kept")
       case f1 => omega)


end
end
section
variable {prog : Program} {w : World} {p : Program} {loose : List Str} {mean : ExcName → Option Value} {mg mb : Str → Option Value}
  {dp un : Nat} {gd : Option (List Code)} {cn : Str} {cs : Scope} {a : Addr} {ccd : Value} {cl : List (Str × Addr)} {outer : List Env} {A₀ : Around} {base h₀ : Heap} {L : Addr} {m : Str → Option Value} {s : Shared} {Q E : Value → Shared → Prop}
section
variable {A : Around}
/-- a source that an iterator i goes over: a list or a tuple l, its items xs -/
structure Src where
  i : Addr
  l : Addr
  tup : Bool
  xs : Array Value
def Src.At (q : Src) (k : Nat) (h : Heap) : Prop := match q.tup with
  | true => h.IsTupleIter q.i q.l k ∧ h.IsTuple q.l q.xs
  | false => h.IsListIter q.i q.l k ∧ h.IsList q.l q.xs
theorem Src.At.ext {q : Src} {k : Nat} {h h' : Heap} (x : q.At k h) (hi : ∀ o, h.get? q.i = some o → h'.get? q.i = some o) (hl : ∀ o, h.get? q.l = some o → h'.get? q.l = some o) : q.At k h' := by
  obtain ⟨i, l, tup, xs⟩ := q
  cases tup <;> (obtain ⟨⟨o, a, b⟩, ⟨o', a', b'⟩⟩ := x; exact ⟨⟨o, hi o a, b⟩, ⟨o', hl o' a', b'⟩⟩)
theorem Src.At.iter {q : Src} {k : Nat} {h : Heap} (x : q.At k h) : ∃ o, h.get? q.i = some o := by
  obtain ⟨i, l, tup, xs⟩ := q
  cases tup <;> (obtain ⟨⟨o, a, b⟩, _⟩ := x; exact ⟨o, a⟩)
theorem Src.At.but {q : Src} {k : Nat} {h h' : Heap} {b : Addr} (x : q.At k h) (hs : Heap.ExtBut b h h') (hi : q.i ≠ b) (hl : q.l ≠ b) : q.At k h' := x.ext (fun o e => hs _ o hi e) (fun o e => hs _ o hl e)

theorem next_tuple_item {it t : Addr} {i : Nat} {items : Array Value} {x : Value} {Q : Value → Shared → Prop} (hit : s.heap.IsTupleIter it t i) (ht : s.heap.IsTuple t items) (hx : items[i]? = some x)
    (hQ : ∀ h', h'.IsTupleIter it t (i + 1) → Heap.SameBut it s.heap h' → Q x { s with heap := h' }) : wpAny (model prog w) A (Builtin.SmallTypes.nextOf (.ref it)) Q E s := by
  obtain ⟨o, ho, hc, hd⟩ := id hit
  obtain ⟨ol, hol, _, nl, hdl⟩ := ht
  unfold Builtin.SmallTypes.nextOf
  refine wpAny_bind (wpAny_callSpecial?_slot (name := Str.ofString "__next__") hit.typeIs F.slot_tuple_iterator_next
    (wpAny_call_entry F.slot_tuple_iterator_next hit.typeIs F.entry_tuple_iterator_next ?_ (F.args_tuple_iterator_next_1 _)))
  show wpAny _ _ (field (.ref it) 0 >>= _) _ _ s
  refine wpAny_bind (wpAny_field ho hd (x := .ref t) rfl ?_)
  show wpAny _ _ (if (Value.ref t == Value.none) = true then _ else _) _ _ s
  rw [if_neg (show ¬ ((Value.ref t == Value.none) = true) from Bool.false_ne_true)]
  show wpAny _ _ (field (.ref it) 1 >>= _) _ _ s
  refine wpAny_bind (wpAny_field ho hd (x := .int i 0) rfl ?_)
  show wpAny _ _ (seqItems? (.ref t) >>= _) _ _ s
  refine wpAny_bind (wpAny_seqItems hol hdl ?_)
  simp only [Int.toNat_natCast, hx]
  refine wpAny_bind (wpAny_setField ho hd (by simp) (wpAny_pure ⟨x, rfl, wpAny_pure (hQ _ ?_ (Heap.SameBut.update ..))⟩))
  exact ⟨_, Heap.get?_update_self _ ho (Obj.isFreed_of_fields (Obj.data_mapFields hd _)), (Obj.cls_mapFields ..).trans hc, by
    rw [Obj.data_mapFields hd]; simp [rawInt]⟩
theorem next_tuple_end {it t : Addr} {i : Nat} {items : Array Value} {Q : Value → Shared → Prop} (hh : A.handled = none) (hit : s.heap.IsTupleIter it t i) (ht : s.heap.IsTuple t items) (hx : items[i]? = none)
    (hE : ∀ h' e, Heap.ExtBut it s.heap h' → (∃ o, h'.get? e = some o ∧ o.cls = .type "StopIteration") → E (.ref e) { s with heap := h' }) : wpAny (model prog w) A (Builtin.SmallTypes.nextOf (.ref it)) Q E s := by
  obtain ⟨o, ho, hc, hd⟩ := id hit
  obtain ⟨ol, hol, _, nl, hdl⟩ := ht
  unfold Builtin.SmallTypes.nextOf
  refine wpAny_bind (wpAny_callSpecial?_slot (name := Str.ofString "__next__") hit.typeIs F.slot_tuple_iterator_next
    (wpAny_call_entry F.slot_tuple_iterator_next hit.typeIs F.entry_tuple_iterator_next ?_ (F.args_tuple_iterator_next_1 _)))
  show wpAny _ _ (field (.ref it) 0 >>= _) _ _ s
  refine wpAny_bind (wpAny_field ho hd (x := .ref t) rfl ?_)
  show wpAny _ _ (if (Value.ref t == Value.none) = true then _ else _) _ _ s
  rw [if_neg (show ¬ ((Value.ref t == Value.none) = true) from Bool.false_ne_true)]
  show wpAny _ _ (field (.ref it) 1 >>= _) _ _ s
  refine wpAny_bind (wpAny_field ho hd (x := .int i 0) rfl ?_)
  show wpAny _ _ (seqItems? (.ref t) >>= _) _ _ s
  refine wpAny_bind (wpAny_seqItems hol hdl ?_)
  simp only [Int.toNat_natCast, hx]
  refine wpAny_bind (wpAny_rule (wpAny_bind (wpAny_setField ho hd (by simp) ?_)))
  show wpAny _ _ (newExc (.type "StopIteration") [] >>= _) _ _ _
  refine wpAny_bind ?_
  simp only [newExc, newTuple]
  refine wpAny_bind (wpAny_newObj_type ?_ (by size_fits))
  refine wpAny_bind (m := firstArgMember _ _) (wpAny_of_eq (a := Value.none) (by first | rfl | (simp only [firstArgMember]; rfl)) ?_)
  refine wpAny_newObj_type ?_ (by size_fits)
  simp only [raiseNew]
  refine wpAny_bind (wpAny_handled ?_)
  first | rw [show A.in1.handled = none from hh] | rw [hh]
  refine wpAny_bind (wpAny_pure (wpAny_throw ?_))
  exact hE _ _ (((Heap.SameBut.update ..).extBut.push _).push _) ⟨_, Heap.get?_push_size _ rfl, rfl⟩

theorem src_item {q : Src} {k : Nat} {v : Value} {Q : Value → Shared → Prop} (x : q.At k s.heap) (hne : q.l ≠ q.i) (hx : q.xs[k]? = some v)
    (hQ : ∀ h', q.At (k + 1) h' → Heap.SameBut q.i s.heap h' → Q v { s with heap := h' }) : wpAny (model prog w) A (Builtin.SmallTypes.nextOf (.ref q.i)) Q E s := by
  obtain ⟨i, l, tup, xs⟩ := q
  cases tup
  · exact wpAny_nextOf_list_item x.1 x.2 hx fun h' a b => hQ h' ⟨a, x.2.extBut b.extBut hne⟩ b
  · exact next_tuple_item x.1 x.2 hx fun h' a b => hQ h' ⟨a, x.2.extBut b.extBut hne⟩ b
theorem src_end {q : Src} {k : Nat} {Q : Value → Shared → Prop} (hh : A.handled = none) (x : q.At k s.heap) (hx : q.xs[k]? = none)
    (hE : ∀ h' e, Heap.ExtBut q.i s.heap h' → (∃ o, h'.get? e = some o ∧ o.cls = .type "StopIteration") → E (.ref e) { s with heap := h' }) : wpAny (model prog w) A (Builtin.SmallTypes.nextOf (.ref q.i)) Q E s := by
  obtain ⟨i, l, tup, xs⟩ := q
  cases tup
  · exact wpAny_nextOf_list_end hh x.1 x.2 hx hE
  · exact next_tuple_end hh x.1 x.2 hx hE

/-- a tuple, its items written -/
abbrev IsT (h : Heap) (T : Addr) (vs : List Value) : Prop := h.get? T = some { cls := .type "tuple", data := .seq vs.toArray }

theorem update_tuple {T : Addr} {vs : List Value} {x : Value} {k : Nat} {Q : Unit → Shared → Prop} (hT : IsT s.heap T vs) (hv : vs.length ≤ 8)
    (h : ∀ h', IsT h' T (vs.set k x) → Heap.SameBut T s.heap h' → Q () { s with heap := h' }) : wpAny (model prog w) A (updateSeq T (·.setIfInBounds k x)) Q E s := by
  have h1 : vs.toArray.size ≤ sizeLine := by rw [List.size_toArray, sizeLine_eq]; omega
  have h2 : (vs.toArray.setIfInBounds k x).size ≤ sizeLine + 1 := by rw [Array.size_setIfInBounds]; omega
  refine wpAny_updateSeq (hz := h1) (_hz' := h2) (f := (·.setIfInBounds k x)) hT rfl (h _ ?_ (Heap.SameBut.update ..))
  show (s.heap.update T _).get? T = _
  rw [Heap.get?_update_self _ hT rfl]
  simp [Obj.mapSeq]

/-- where a zip of these sources stands: what it writes lies apart, and none of its sources is written -/
structure ZApart (z TI TO : Addr) (qs : List Src) : Prop where
  TIz : TI ≠ z
  TOz : TO ≠ z
  TITO : TI ≠ TO
  src : ∀ q ∈ qs, q.i ≠ z ∧ q.i ≠ TI ∧ q.i ≠ TO ∧ q.l ≠ z ∧ q.l ≠ TO
  all : ∀ q ∈ qs, ∀ q' ∈ qs, q.l ≠ q'.i
  its : (qs.map (·.i)).Nodup

theorem zip3_item {z TI TO : Addr} {q1 q2 q3 : Src} {k : Nat} {x1 x2 x3 a b c : Value} {Q : Value → Shared → Prop} (D : ZApart z TI TO [q1, q2, q3])
    (hz : IsZip s.heap z TI TO .none) (hTI : IsT s.heap TI [.ref q1.i, .ref q2.i, .ref q3.i]) (hTO : IsT s.heap TO [a, b, c])
    (h1 : q1.At k s.heap) (h2 : q2.At k s.heap) (h3 : q3.At k s.heap) (e1 : q1.xs[k]? = some x1) (e2 : q2.xs[k]? = some x2) (e3 : q3.xs[k]? = some x3)
    (hQ : ∀ h', IsZip h' z TI TO (rawInt s.heap.objs.size) → IsT h' TO [x1, x2, x3] → q1.At (k + 1) h' → q2.At (k + 1) h' → q3.At (k + 1) h' → IsT h' s.heap.objs.size [x1, x2, x3] → h'.objs.size = s.heap.objs.size + 1 →
      Kept [z, TO, q1.i, q2.i, q3.i] s.heap h' → Q (.ref s.heap.objs.size) { s with heap := h' }) :
    wpAny (model prog w) A (Builtin.«zip.__next__» ⟨[.ref z], []⟩) (fun fin s' => ∃ v, fin = .done (.ret v) ∧ Q v s') E s := by
  have I12 : q1.i ≠ q2.i := by have := D.its; simp at this; exact this.1.1
  have I13 : q1.i ≠ q3.i := by have := D.its; simp at this; exact this.1.2
  have I23 : q2.i ≠ q3.i := by have := D.its; simp at this; exact this.2
  obtain ⟨a1, a2, a3, a4, a5⟩ := D.src q1 (by simp)
  obtain ⟨b1, b2, b3, b4, b5⟩ := D.src q2 (by simp)
  obtain ⟨c1, c2, c3, c4, c5⟩ := D.src q3 (by simp)
  have L : ∀ q ∈ [q1, q2, q3], ∀ q' ∈ [q1, q2, q3], q.l ≠ q'.i := D.all
  show wpAny _ _ (field (.ref z) 2 >>= _) _ _ _
  refine wpAny_bind (wpAny_field hz rfl (x := .bool false) rfl ?_)
  show wpAny _ _ (field (.ref z) 3 >>= _) _ _ _
  refine wpAny_bind (wpAny_field hz rfl (x := .ref TI) rfl ?_)
  refine wpAny_bind (wpAny_seqItems hTI rfl ?_)
  show wpAny _ _ (Builtin.SmallTypes.ownedTupleIsFree (.ref z) >>= _) _ _ _
  refine wpAny_bind ?_
  unfold Builtin.SmallTypes.ownedTupleIsFree
  refine wpAny_bind (wpAny_field hz rfl (x := .none) rfl (wpAny_pure ?_))
  simp only [if_true]
  refine wpAny_bind (wpAny_rule ?_)
  refine wpAny_bind (wpAny_field hz rfl (x := .ref TO) rfl ?_)
  refine wpAny_bind (wpAny_setField_rec hz (by simp) fun g₁ hz₁ hs₁ => ?_)
  replace hz₁ : IsZip g₁ z TI TO .ellipsis := hz₁
  have k1 : q1.At k g₁ := h1.but hs₁.extBut a1 a4
  have k2 : q2.At k g₁ := h2.but hs₁.extBut b1 b4
  have k3 : q3.At k g₁ := h3.but hs₁.extBut c1 c4
  have t1 : IsT g₁ TO [a, b, c] := hs₁.extBut _ _ D.TOz hTO
  refine wpAny_bind ?_
  simp only [List.zipIdx_cons, List.zipIdx_nil, List.forIn_cons, List.forIn_nil]
  -- the first source
  refine wpAny_bind (wpAny_bind (wpAny_onRaise ?_))
  show wpAny _ _ (Builtin.SmallTypes.nextOf (.ref q1.i) >>= _) _ _ _
  refine wpAny_bind (src_item k1 (L q1 (by simp) q1 (by simp)) e1 fun g₂ k1 hs₂ => wpAny_pure ?_)
  replace k2 : q2.At k g₂ := k2.but hs₂.extBut I12.symm (L q2 (by simp) q1 (by simp))
  replace k3 : q3.At k g₂ := k3.but hs₂.extBut I13.symm (L q3 (by simp) q1 (by simp))
  replace t1 : IsT g₂ TO [a, b, c] := hs₂.extBut _ _ a3.symm t1
  refine wpAny_bind (wpAny_seqItems t1 rfl ?_)
  refine wpAny_bind (update_tuple t1 (by simp) fun g₃ t2 hs₃ => ?_)
  replace t2 : IsT g₃ TO [x1, b, c] := t2
  replace k1 : q1.At (k + 1) g₃ := k1.but hs₃.extBut a3 a5
  replace k2 : q2.At k g₃ := k2.but hs₃.extBut b3 b5
  replace k3 : q3.At k g₃ := k3.but hs₃.extBut c3 c5
  refine wpAny_bind (wpAny_letGo (wpAny_pure ?_))
  -- the second
  refine wpAny_bind (wpAny_bind (wpAny_onRaise ?_))
  show wpAny _ _ (Builtin.SmallTypes.nextOf (.ref q2.i) >>= _) _ _ _
  refine wpAny_bind (src_item k2 (L q2 (by simp) q2 (by simp)) e2 fun g₄ k2 hs₄ => wpAny_pure ?_)
  replace k1 : q1.At (k + 1) g₄ := k1.but hs₄.extBut I12 (L q1 (by simp) q2 (by simp))
  replace k3 : q3.At k g₄ := k3.but hs₄.extBut I23.symm (L q3 (by simp) q2 (by simp))
  replace t2 : IsT g₄ TO [x1, b, c] := hs₄.extBut _ _ b3.symm t2
  refine wpAny_bind (wpAny_seqItems t2 rfl ?_)
  refine wpAny_bind (update_tuple t2 (by simp) fun g₅ t3 hs₅ => ?_)
  replace t3 : IsT g₅ TO [x1, x2, c] := t3
  replace k1 : q1.At (k + 1) g₅ := k1.but hs₅.extBut a3 a5
  replace k2 : q2.At (k + 1) g₅ := k2.but hs₅.extBut b3 b5
  replace k3 : q3.At k g₅ := k3.but hs₅.extBut c3 c5
  refine wpAny_bind (wpAny_letGo (wpAny_pure ?_))
  -- the third
  refine wpAny_bind (wpAny_bind (wpAny_onRaise ?_))
  show wpAny _ _ (Builtin.SmallTypes.nextOf (.ref q3.i) >>= _) _ _ _
  refine wpAny_bind (src_item k3 (L q3 (by simp) q3 (by simp)) e3 fun g₆ k3 hs₆ => wpAny_pure ?_)
  replace k1 : q1.At (k + 1) g₆ := k1.but hs₆.extBut I13 (L q1 (by simp) q3 (by simp))
  replace k2 : q2.At (k + 1) g₆ := k2.but hs₆.extBut I23 (L q2 (by simp) q3 (by simp))
  replace t3 : IsT g₆ TO [x1, x2, c] := hs₆.extBut _ _ c3.symm t3
  refine wpAny_bind (wpAny_seqItems t3 rfl ?_)
  refine wpAny_bind (update_tuple t3 (by simp) fun g₇ t4 hs₇ => ?_)
  replace t4 : IsT g₇ TO [x1, x2, x3] := t4
  replace k1 : q1.At (k + 1) g₇ := k1.but hs₇.extBut a3 a5
  replace k2 : q2.At (k + 1) g₇ := k2.but hs₇.extBut b3 b5
  replace k3 : q3.At (k + 1) g₇ := k3.but hs₇.extBut c3 c5
  refine wpAny_bind (wpAny_letGo (wpAny_pure (wpAny_pure ?_)))
  -- the tuple handed out
  refine wpAny_bind (wpAny_seqItems t4 rfl ?_)
  refine wpAny_bind (wpAny_newTuple ?_)
  have hz₇ : IsZip g₇ z TI TO .ellipsis := hs₇.extBut _ _ D.TOz.symm (hs₆.extBut _ _ c1.symm (hs₅.extBut _ _ D.TOz.symm (hs₄.extBut _ _ b1.symm (hs₃.extBut _ _ D.TOz.symm (hs₂.extBut _ _ a1.symm hz₁)))))
  have hsz : g₇.objs.size = s.heap.objs.size := by rw [hs₇.1, hs₆.1, hs₅.1, hs₄.1, hs₃.1, hs₂.1, hs₁.1]
  have hk₇ : Kept [z, TO, q1.i, q2.i, q3.i] s.heap g₇ := fun y o e hy => by
    simp only [List.mem_cons, List.not_mem_nil, or_false, not_or] at hy
    obtain ⟨y1, y2, y3, y4, y5⟩ := hy
    exact hs₇.extBut _ _ y2 (hs₆.extBut _ _ y5 (hs₅.extBut _ _ y2 (hs₄.extBut _ _ y4 (hs₃.extBut _ _ y2 (hs₂.extBut _ _ y3 (hs₁.extBut _ _ y1 e))))))
  have hzlt : z < g₇.objs.size := Heap.lt_size hz₇
  show wpAny _ _ (Builtin.SmallTypes.ownedTupleHandOut (.ref z) (.ref g₇.objs.size) >>= _) _ _ _
  refine wpAny_bind ?_
  unfold Builtin.SmallTypes.ownedTupleHandOut
  have hz₈ : IsZip (g₇.push { cls := .type "tuple", data := .seq #[x1, x2, x3] }) z TI TO .ellipsis := Heap.get?_push_of_some _ hz₇
  refine wpAny_bind (wpAny_setField_rec hz₈ (by simp) fun g₉ hz₉ hs₉ => ?_)
  replace hz₉ : IsZip g₉ z TI TO (rawInt g₇.objs.size) := hz₉
  refine wpAny_setField_rec hz₉ (by simp) fun g hzg hsg => ?_
  replace hzg : IsZip g z TI TO (rawInt g₇.objs.size) := hzg
  have up : ∀ y o, y ≠ z → g₇.get? y = some o → g.get? y = some o := fun y o y1 e => hsg.extBut _ _ y1 (hs₉.extBut _ _ y1 (Heap.get?_push_of_some _ e))
  have hT : IsT g g₇.objs.size [x1, x2, x3] := hsg.extBut _ _ (Nat.ne_of_gt hzlt) (hs₉.extBut _ _ (Nat.ne_of_gt hzlt) (Heap.get?_push_size _ rfl))
  have hgs : g.objs.size = g₇.objs.size + 1 := by rw [hsg.1, hs₉.1, Heap.size_push]
  rw [hsz] at hzg hT hgs
  refine wpAny_pure ⟨_, rfl, ?_⟩
  show Q (.ref g₇.objs.size) _
  rw [hsz]
  exact hQ g hzg (up _ _ D.TOz t4) (k1.ext (fun o e => up _ o a1 e) (fun o e => up _ o a4 e)) (k2.ext (fun o e => up _ o b1 e) (fun o e => up _ o b4 e)) (k3.ext (fun o e => up _ o c1 e) (fun o e => up _ o c4 e)) hT hgs
    fun y o e hy => up y o (by simp at hy; exact hy.1) (hk₇ y o e hy)
theorem zip2_item {z TI TO : Addr} {q1 q2 : Src} {k : Nat} {x1 x2 a b : Value} {Q : Value → Shared → Prop} (D : ZApart z TI TO [q1, q2])
    (hz : IsZip s.heap z TI TO .none) (hTI : IsT s.heap TI [.ref q1.i, .ref q2.i]) (hTO : IsT s.heap TO [a, b])
    (h1 : q1.At k s.heap) (h2 : q2.At k s.heap) (e1 : q1.xs[k]? = some x1) (e2 : q2.xs[k]? = some x2)
    (hQ : ∀ h', IsZip h' z TI TO (rawInt s.heap.objs.size) → IsT h' TO [x1, x2] → q1.At (k + 1) h' → q2.At (k + 1) h' → IsT h' s.heap.objs.size [x1, x2] → h'.objs.size = s.heap.objs.size + 1 →
      Kept [z, TO, q1.i, q2.i] s.heap h' → Q (.ref s.heap.objs.size) { s with heap := h' }) :
    wpAny (model prog w) A (Builtin.«zip.__next__» ⟨[.ref z], []⟩) (fun fin s' => ∃ v, fin = .done (.ret v) ∧ Q v s') E s := by
  have I12 : q1.i ≠ q2.i := by have := D.its; simp at this; exact this
  obtain ⟨a1, a2, a3, a4, a5⟩ := D.src q1 (by simp)
  obtain ⟨b1, b2, b3, b4, b5⟩ := D.src q2 (by simp)
  have L : ∀ q ∈ [q1, q2], ∀ q' ∈ [q1, q2], q.l ≠ q'.i := D.all
  show wpAny _ _ (field (.ref z) 2 >>= _) _ _ _
  refine wpAny_bind (wpAny_field hz rfl (x := .bool false) rfl ?_)
  show wpAny _ _ (field (.ref z) 3 >>= _) _ _ _
  refine wpAny_bind (wpAny_field hz rfl (x := .ref TI) rfl ?_)
  refine wpAny_bind (wpAny_seqItems hTI rfl ?_)
  show wpAny _ _ (Builtin.SmallTypes.ownedTupleIsFree (.ref z) >>= _) _ _ _
  refine wpAny_bind ?_
  unfold Builtin.SmallTypes.ownedTupleIsFree
  refine wpAny_bind (wpAny_field hz rfl (x := .none) rfl (wpAny_pure ?_))
  simp only [if_true]
  refine wpAny_bind (wpAny_rule ?_)
  refine wpAny_bind (wpAny_field hz rfl (x := .ref TO) rfl ?_)
  refine wpAny_bind (wpAny_setField_rec hz (by simp) fun g₁ hz₁ hs₁ => ?_)
  replace hz₁ : IsZip g₁ z TI TO .ellipsis := hz₁
  have k1 : q1.At k g₁ := h1.but hs₁.extBut a1 a4
  have k2 : q2.At k g₁ := h2.but hs₁.extBut b1 b4
  have t1 : IsT g₁ TO [a, b] := hs₁.extBut _ _ D.TOz hTO
  refine wpAny_bind ?_
  simp only [List.zipIdx_cons, List.zipIdx_nil, List.forIn_cons, List.forIn_nil]
  refine wpAny_bind (wpAny_bind (wpAny_onRaise ?_))
  show wpAny _ _ (Builtin.SmallTypes.nextOf (.ref q1.i) >>= _) _ _ _
  refine wpAny_bind (src_item k1 (L q1 (by simp) q1 (by simp)) e1 fun g₂ k1 hs₂ => wpAny_pure ?_)
  replace k2 : q2.At k g₂ := k2.but hs₂.extBut I12.symm (L q2 (by simp) q1 (by simp))
  replace t1 : IsT g₂ TO [a, b] := hs₂.extBut _ _ a3.symm t1
  refine wpAny_bind (wpAny_seqItems t1 rfl ?_)
  refine wpAny_bind (update_tuple t1 (by simp) fun g₃ t2 hs₃ => ?_)
  replace t2 : IsT g₃ TO [x1, b] := t2
  replace k1 : q1.At (k + 1) g₃ := k1.but hs₃.extBut a3 a5
  replace k2 : q2.At k g₃ := k2.but hs₃.extBut b3 b5
  refine wpAny_bind (wpAny_letGo (wpAny_pure ?_))
  refine wpAny_bind (wpAny_bind (wpAny_onRaise ?_))
  show wpAny _ _ (Builtin.SmallTypes.nextOf (.ref q2.i) >>= _) _ _ _
  refine wpAny_bind (src_item k2 (L q2 (by simp) q2 (by simp)) e2 fun g₄ k2 hs₄ => wpAny_pure ?_)
  replace k1 : q1.At (k + 1) g₄ := k1.but hs₄.extBut I12 (L q1 (by simp) q2 (by simp))
  replace t2 : IsT g₄ TO [x1, b] := hs₄.extBut _ _ b3.symm t2
  refine wpAny_bind (wpAny_seqItems t2 rfl ?_)
  refine wpAny_bind (update_tuple t2 (by simp) fun g₇ t4 hs₇ => ?_)
  replace t4 : IsT g₇ TO [x1, x2] := t4
  replace k1 : q1.At (k + 1) g₇ := k1.but hs₇.extBut a3 a5
  replace k2 : q2.At (k + 1) g₇ := k2.but hs₇.extBut b3 b5
  refine wpAny_bind (wpAny_letGo (wpAny_pure (wpAny_pure ?_)))
  refine wpAny_bind (wpAny_seqItems t4 rfl ?_)
  refine wpAny_bind (wpAny_newTuple ?_)
  have hz₇ : IsZip g₇ z TI TO .ellipsis := hs₇.extBut _ _ D.TOz.symm (hs₄.extBut _ _ b1.symm (hs₃.extBut _ _ D.TOz.symm (hs₂.extBut _ _ a1.symm hz₁)))
  have hsz : g₇.objs.size = s.heap.objs.size := by rw [hs₇.1, hs₄.1, hs₃.1, hs₂.1, hs₁.1]
  have hk₇ : Kept [z, TO, q1.i, q2.i] s.heap g₇ := fun y o e hy => by
    simp only [List.mem_cons, List.not_mem_nil, or_false, not_or] at hy
    obtain ⟨y1, y2, y3, y4⟩ := hy
    exact hs₇.extBut _ _ y2 (hs₄.extBut _ _ y4 (hs₃.extBut _ _ y2 (hs₂.extBut _ _ y3 (hs₁.extBut _ _ y1 e))))
  have hzlt : z < g₇.objs.size := Heap.lt_size hz₇
  show wpAny _ _ (Builtin.SmallTypes.ownedTupleHandOut (.ref z) (.ref g₇.objs.size) >>= _) _ _ _
  refine wpAny_bind ?_
  unfold Builtin.SmallTypes.ownedTupleHandOut
  have hz₈ : IsZip (g₇.push { cls := .type "tuple", data := .seq #[x1, x2] }) z TI TO .ellipsis := Heap.get?_push_of_some _ hz₇
  refine wpAny_bind (wpAny_setField_rec hz₈ (by simp) fun g₉ hz₉ hs₉ => ?_)
  replace hz₉ : IsZip g₉ z TI TO (rawInt g₇.objs.size) := hz₉
  refine wpAny_setField_rec hz₉ (by simp) fun g hzg hsg => ?_
  replace hzg : IsZip g z TI TO (rawInt g₇.objs.size) := hzg
  have up : ∀ y o, y ≠ z → g₇.get? y = some o → g.get? y = some o := fun y o y1 e => hsg.extBut _ _ y1 (hs₉.extBut _ _ y1 (Heap.get?_push_of_some _ e))
  have hT : IsT g g₇.objs.size [x1, x2] := hsg.extBut _ _ (Nat.ne_of_gt hzlt) (hs₉.extBut _ _ (Nat.ne_of_gt hzlt) (Heap.get?_push_size _ rfl))
  have hgs : g.objs.size = g₇.objs.size + 1 := by rw [hsg.1, hs₉.1, Heap.size_push]
  rw [hsz] at hzg hT hgs
  refine wpAny_pure ⟨_, rfl, ?_⟩
  show Q (.ref g₇.objs.size) _
  rw [hsz]
  exact hQ g hzg (up _ _ D.TOz t4) (k1.ext (fun o e => up _ o a1 e) (fun o e => up _ o a4 e)) (k2.ext (fun o e => up _ o b1 e) (fun o e => up _ o b4 e)) hT hgs
    fun y o e hy => up y o (by simp at hy; exact hy.1) (hk₇ y o e hy)

theorem zip_end {z TI TO : Addr} {q1 : Src} {rest : List Value} {k : Nat} {Q : Fin → Shared → Prop} (hh : A.handled = none) (hiz : q1.i ≠ z) (hlz : q1.l ≠ z)
    (hz : IsZip s.heap z TI TO .none) (hTI : IsT s.heap TI (.ref q1.i :: rest)) (h1 : q1.At k s.heap) (e1 : q1.xs[k]? = none)
    (hE : ∀ h' e, Kept [z, q1.i] s.heap h' → (∃ o, h'.get? e = some o ∧ o.cls = .type "StopIteration") → E (.ref e) { s with heap := h' }) :
    wpAny (model prog w) A (Builtin.«zip.__next__» ⟨[.ref z], []⟩) Q E s := by
  show wpAny _ _ (field (.ref z) 2 >>= _) _ _ _
  refine wpAny_bind (wpAny_field hz rfl (x := .bool false) rfl ?_)
  show wpAny _ _ (field (.ref z) 3 >>= _) _ _ _
  refine wpAny_bind (wpAny_field hz rfl (x := .ref TI) rfl ?_)
  refine wpAny_bind (wpAny_seqItems hTI rfl ?_)
  show wpAny _ _ (Builtin.SmallTypes.ownedTupleIsFree (.ref z) >>= _) _ _ _
  refine wpAny_bind ?_
  unfold Builtin.SmallTypes.ownedTupleIsFree
  refine wpAny_bind (wpAny_field hz rfl (x := .none) rfl (wpAny_pure ?_))
  simp only [if_true]
  refine wpAny_bind (wpAny_rule ?_)
  refine wpAny_bind (wpAny_field hz rfl (x := .ref TO) rfl ?_)
  refine wpAny_bind (wpAny_setField_rec hz (by simp) fun g₁ hz₁ hs₁ => ?_)
  replace hz₁ : IsZip g₁ z TI TO .ellipsis := hz₁
  have k1 : q1.At k g₁ := h1.but hs₁.extBut hiz hlz
  refine wpAny_bind ?_
  simp only [List.zipIdx_cons, List.forIn_cons]
  refine wpAny_bind (wpAny_bind (wpAny_onRaise ?_))
  show wpAny _ _ (Builtin.SmallTypes.nextOf (.ref q1.i) >>= _) _ _ _
  refine wpAny_bind (src_end hh k1 e1 fun g₂ e hs₂ he => ?_)
  obtain ⟨oe, hoe, hce⟩ := he
  have hz₂ : IsZip g₂ z TI TO .ellipsis := hs₂ _ _ hiz.symm hz₁
  have hez : e ≠ z := fun x => by subst x; rw [hz₂] at hoe; cases hoe; simp at hce
  refine wpAny_setField_rec hz₂ (by simp) fun g₃ _ hs₃ => hE g₃ e (fun c o x hc => ?_) ⟨oe, hs₃.extBut _ _ hez hoe, hce⟩
  simp only [List.mem_cons, List.not_mem_nil, or_false, not_or] at hc
  exact hs₃.extBut _ _ hc.1 (hs₂ _ _ hc.2 (hs₁.extBut _ _ hc.1 x))

theorem next_zip3 {z TI TO : Addr} {q1 q2 q3 : Src} {k : Nat} {x1 x2 x3 a b c : Value} {Q : Option Value → Shared → Prop} (D : ZApart z TI TO [q1, q2, q3])
    (hz : IsZip s.heap z TI TO .none) (hTI : IsT s.heap TI [.ref q1.i, .ref q2.i, .ref q3.i]) (hTO : IsT s.heap TO [a, b, c])
    (h1 : q1.At k s.heap) (h2 : q2.At k s.heap) (h3 : q3.At k s.heap) (e1 : q1.xs[k]? = some x1) (e2 : q2.xs[k]? = some x2) (e3 : q3.xs[k]? = some x3)
    (hQ : ∀ h', IsZip h' z TI TO (rawInt s.heap.objs.size) → IsT h' TO [x1, x2, x3] → q1.At (k + 1) h' → q2.At (k + 1) h' → q3.At (k + 1) h' → IsT h' s.heap.objs.size [x1, x2, x3] → h'.objs.size = s.heap.objs.size + 1 →
      Kept [z, TO, q1.i, q2.i, q3.i] s.heap h' → Q (some (.ref s.heap.objs.size)) { s with heap := h' }) : wpAny (model prog w) A (pyNext (.ref z)) Q E s := by
  have hT : s.TypeIs (.ref z) "zip" := ⟨_, hz, rfl⟩
  unfold pyNext
  exact wpAny_bind (wpAny_attempt (wpAny_callSpecial?_slot (name := Str.ofString "__next__") hT F.slot_zip_next
    (wpAny_call_entry F.slot_zip_next hT F.entry_zip_next (zip3_item D hz hTI hTO h1 h2 h3 e1 e2 e3 fun h' p1 p2 p3 p4 p5 p6 p7 p8 => wpAny_pure (hQ h' p1 p2 p3 p4 p5 p6 p7 p8)) (F.args_zip_next_1 _))))
theorem next_zip2 {z TI TO : Addr} {q1 q2 : Src} {k : Nat} {x1 x2 a b : Value} {Q : Option Value → Shared → Prop} (D : ZApart z TI TO [q1, q2])
    (hz : IsZip s.heap z TI TO .none) (hTI : IsT s.heap TI [.ref q1.i, .ref q2.i]) (hTO : IsT s.heap TO [a, b])
    (h1 : q1.At k s.heap) (h2 : q2.At k s.heap) (e1 : q1.xs[k]? = some x1) (e2 : q2.xs[k]? = some x2)
    (hQ : ∀ h', IsZip h' z TI TO (rawInt s.heap.objs.size) → IsT h' TO [x1, x2] → q1.At (k + 1) h' → q2.At (k + 1) h' → IsT h' s.heap.objs.size [x1, x2] → h'.objs.size = s.heap.objs.size + 1 →
      Kept [z, TO, q1.i, q2.i] s.heap h' → Q (some (.ref s.heap.objs.size)) { s with heap := h' }) : wpAny (model prog w) A (pyNext (.ref z)) Q E s := by
  have hT : s.TypeIs (.ref z) "zip" := ⟨_, hz, rfl⟩
  unfold pyNext
  exact wpAny_bind (wpAny_attempt (wpAny_callSpecial?_slot (name := Str.ofString "__next__") hT F.slot_zip_next
    (wpAny_call_entry F.slot_zip_next hT F.entry_zip_next (zip2_item D hz hTI hTO h1 h2 e1 e2 fun h' p1 p2 p3 p4 p6 p7 p8 => wpAny_pure (hQ h' p1 p2 p3 p4 p6 p7 p8)) (F.args_zip_next_1 _))))
theorem next_zip_end {z TI TO : Addr} {q1 : Src} {rest : List Value} {k : Nat} {Q : Option Value → Shared → Prop} (hh : A.handled = none) (hiz : q1.i ≠ z) (hlz : q1.l ≠ z)
    (hz : IsZip s.heap z TI TO .none) (hTI : IsT s.heap TI (.ref q1.i :: rest)) (h1 : q1.At k s.heap) (e1 : q1.xs[k]? = none)
    (hQ : ∀ h', Kept [z, q1.i] s.heap h' → Q none { s with heap := h' }) : wpAny (model prog w) A (pyNext (.ref z)) Q E s := by
  have hT : s.TypeIs (.ref z) "zip" := ⟨_, hz, rfl⟩
  unfold pyNext
  refine wpAny_bind (wpAny_attempt (wpAny_callSpecial?_slot (name := Str.ofString "__next__") hT F.slot_zip_next
    (wpAny_call_entry F.slot_zip_next hT F.entry_zip_next (zip_end hh hiz hlz hz hTI h1 e1 fun h' e hk he => ?_) (F.args_zip_next_1 _))))
  obtain ⟨o, ho, hc⟩ := he
  refine wpAny_bind (wpAny_isInstance (T := "StopIteration") (b := true) ⟨o, ho, hc⟩ isSubtype_stop ?_)
  exact wpAny_pure (hQ _ hk)
end

end
section
variable {prog : Program} {w : World} {p : Program} {loose : List Str} {mean : ExcName → Option Value} {mg mb : Str → Option Value}
  {dp un : Nat} {gd : Option (List Code)} {cn : Str} {cs : Scope} {a : Addr} {ccd : Value} {cl : List (Str × Addr)} {outer : List Env} {A₀ : Around} {base h₀ : Heap} {L : Addr} {m : Str → Option Value} {s : Shared} {Q E : Value → Shared → Prop}
section
variable {A : Around}
theorem typeCall_zip3 (a b c : Value) : checkTypeCall "zip" ⟨[a, b, c], []⟩ = pure () := by kernel_rfl
theorem newCall_zip3 (a b c : Value) : checkBuiltinCall "zip.__new__" ⟨[.type "zip", a, b, c], []⟩ = pure () := by kernel_rfl
theorem args_init4 (a b c d : Value) : argsOk "object.__init__" ⟨[a, b, c, d], []⟩ := by
  unfold argsOk; rw [signature?_of (id := "object.__init__") (n := ['_', '_', 't', 'i', 'n', 'i', '_', '_']) (o := ['t', 'c', 'e', 'j', 'b', 'o']) (by kernel_rfl) PySem.F.owner_object]; kernel_rfl
abbrev tIt (l : Addr) : Obj := { cls := .type "tuple_iterator", data := .fields #[.ref l, .int 0 0] }
abbrev lIt (l : Addr) : Obj := { cls := .type "list_iterator", data := .fields #[.ref l, .int 0 0] }
abbrev z3a (h : Heap) (l1 : Addr) : Heap := h.push (tIt l1)
abbrev z3b (h : Heap) (l1 l2 : Addr) : Heap := (z3a h l1).push (lIt l2)
abbrev z3c (h : Heap) (l1 l2 l3 : Addr) : Heap := (z3b h l1 l2).push (lIt l3)
abbrev z3d (h : Heap) (l1 l2 l3 : Addr) : Heap := (z3c h l1 l2 l3).push { cls := .type "tuple", data := .seq #[.ref h.objs.size, .ref (z3a h l1).objs.size, .ref (z3b h l1 l2).objs.size] }
abbrev z3e (h : Heap) (l1 l2 l3 : Addr) : Heap := (z3d h l1 l2 l3).push { cls := .type "tuple", data := .seq #[.none, .none, .none] }
abbrev z3f (h : Heap) (l1 l2 l3 : Addr) : Heap := (z3e h l1 l2 l3).push { cls := .type "zip", data := .fields #[.none, .bool false, .bool false, .ref (z3c h l1 l2 l3).objs.size, .ref (z3d h l1 l2 l3).objs.size] }
theorem meets_zip3 (l1 l2 l3 : Addr) (xs ys zs : Array Value) :
    Meets (Builtin.«zip.__new__» ⟨[.type "zip", .ref l1, .ref l2, .ref l3], []⟩) (fun _ R s => s.heap.IsTuple l1 xs ∧ s.heap.IsList l2 ys ∧ s.heap.IsList l3 zs ∧
      R (.ok (.ret (.ref (z3e s.heap l1 l2 l3).objs.size))) { s with heap := z3f s.heap l1 l2 l3 }) :=
  .of_wp fun prog w A R s h => by
    obtain ⟨hp, g, d, tk, os⟩ := s; obtain ⟨hl1, hl2, hl3, h⟩ := h
    have hsub := sub_zip
    have hL1 : Heap.IsTuple (Shared.heap ⟨hp, g, d, tk, os⟩) l1 xs := hl1
    have hL2 : Heap.IsList (Shared.heap ⟨hp.push (tIt l1), g, d, tk, os⟩) l2 ys := Heap.IsList.push hl2 _
    have hL3 : Heap.IsList (Shared.heap ⟨(hp.push (tIt l1)).push (lIt l2), g, d, tk, os⟩) l3 zs := Heap.IsList.push (Heap.IsList.push hl3 _) _
    wp_walk using wpAny_pyIter_tuple hL1, wpAny_pyIter_list hL2, wpAny_pyIter_list hL3
    exact ⟨_, rfl, h⟩
abbrev z2b (h : Heap) (l1 l2 : Addr) : Heap := (z3a h l1).push (tIt l2)
abbrev z2c (h : Heap) (l1 l2 : Addr) : Heap := (z2b h l1 l2).push { cls := .type "tuple", data := .seq #[.ref h.objs.size, .ref (z3a h l1).objs.size] }
abbrev z2d (h : Heap) (l1 l2 : Addr) : Heap := (z2c h l1 l2).push { cls := .type "tuple", data := .seq #[.none, .none] }
abbrev z2e (h : Heap) (l1 l2 : Addr) : Heap := (z2d h l1 l2).push { cls := .type "zip", data := .fields #[.none, .bool false, .bool false, .ref (z2b h l1 l2).objs.size, .ref (z2c h l1 l2).objs.size] }
theorem meets_zip2 (l1 l2 : Addr) (xs ys : Array Value) :
    Meets (Builtin.«zip.__new__» ⟨[.type "zip", .ref l1, .ref l2], []⟩) (fun _ R s => s.heap.IsTuple l1 xs ∧ s.heap.IsTuple l2 ys ∧
      R (.ok (.ret (.ref (z2d s.heap l1 l2).objs.size))) { s with heap := z2e s.heap l1 l2 }) :=
  .of_wp fun prog w A R s h => by
    obtain ⟨hp, g, d, tk, os⟩ := s; obtain ⟨hl1, hl2, h⟩ := h
    have hsub := sub_zip
    have hL1 : Heap.IsTuple (Shared.heap ⟨hp, g, d, tk, os⟩) l1 xs := hl1
    have hL2 : Heap.IsTuple (Shared.heap ⟨hp.push (tIt l1), g, d, tk, os⟩) l2 ys := Heap.IsTuple.push hl2 _
    wp_walk using wpAny_pyIter_tuple hL1, wpAny_pyIter_tuple hL2
    exact ⟨_, rfl, h⟩
theorem call_zip3 {l1 l2 l3 : Addr} {xs ys zs : Array Value} {Q : Value → Shared → Prop} (hl1 : s.heap.IsTuple l1 xs) (hl2 : s.heap.IsList l2 ys) (hl3 : s.heap.IsList l3 zs)
    (h : ∀ h', IsZip h' (s.heap.objs.size + 5) (s.heap.objs.size + 3) (s.heap.objs.size + 4) .none → IsT h' (s.heap.objs.size + 3) [.ref s.heap.objs.size, .ref (s.heap.objs.size + 1), .ref (s.heap.objs.size + 2)] →
      IsT h' (s.heap.objs.size + 4) [.none, .none, .none] → h'.IsTupleIter s.heap.objs.size l1 0 → h'.IsListIter (s.heap.objs.size + 1) l2 0 → h'.IsListIter (s.heap.objs.size + 2) l3 0 → h'.objs.size = s.heap.objs.size + 6 →
      (∀ c o, s.heap.get? c = some o → h'.get? c = some o) → Q (.ref (s.heap.objs.size + 5)) { s with heap := h' }) :
    wpAny (model prog w) A (call (.type "zip") [.ref l1, .ref l2, .ref l3]) Q E s := by
  refine callType_new F.called_zip (by decide) (typeCall_zip3 _ _ _) (newCall_zip3 _ _ _) (fun obj => args_init4 obj _ _ _) F.entry_zip_new (meets_zip3 l1 l2 l3 xs ys zs) ⟨hl1, hl2, hl3, ?_⟩
  have s1 : (z3a s.heap l1).objs.size = s.heap.objs.size + 1 := Heap.size_push ..
  have s2 : (z3b s.heap l1 l2).objs.size = s.heap.objs.size + 2 := by rw [Heap.size_push, s1]
  have s3 : (z3c s.heap l1 l2 l3).objs.size = s.heap.objs.size + 3 := by rw [Heap.size_push, s2]
  have s4 : (z3d s.heap l1 l2 l3).objs.size = s.heap.objs.size + 4 := by rw [Heap.size_push, s3]
  have s5 : (z3e s.heap l1 l2 l3).objs.size = s.heap.objs.size + 5 := by rw [Heap.size_push, s4]
  have s6 : (z3f s.heap l1 l2 l3).objs.size = s.heap.objs.size + 6 := by rw [Heap.size_push, s5]
  have g6 : (z3f s.heap l1 l2 l3).get? (z3e s.heap l1 l2 l3).objs.size = some _ := Heap.get?_push_size _ rfl
  have g5 : (z3f s.heap l1 l2 l3).get? (z3d s.heap l1 l2 l3).objs.size = some _ := Heap.get?_push_of_some _ (Heap.get?_push_size _ rfl)
  have g4 : (z3f s.heap l1 l2 l3).get? (z3c s.heap l1 l2 l3).objs.size = some _ := Heap.get?_push_of_some _ (Heap.get?_push_of_some _ (Heap.get?_push_size _ rfl))
  have g3 : (z3f s.heap l1 l2 l3).get? (z3b s.heap l1 l2).objs.size = some _ := Heap.get?_push_of_some _ (Heap.get?_push_of_some _ (Heap.get?_push_of_some _ (Heap.get?_push_size _ rfl)))
  have g2 : (z3f s.heap l1 l2 l3).get? (z3a s.heap l1).objs.size = some _ := Heap.get?_push_of_some _ (Heap.get?_push_of_some _ (Heap.get?_push_of_some _ (Heap.get?_push_of_some _ (Heap.get?_push_size _ rfl))))
  have g1 : (z3f s.heap l1 l2 l3).get? s.heap.objs.size = some _ := Heap.get?_push_of_some _ (Heap.get?_push_of_some _ (Heap.get?_push_of_some _ (Heap.get?_push_of_some _ (Heap.get?_push_of_some _ (Heap.get?_push_size _ rfl)))))
  show _ ∧ _
  rw [s3, s4, s5] at g6
  rw [s1, s2, s3] at g4
  rw [s4] at g5
  rw [s2] at g3
  rw [s1] at g2
  rw [s5]
  exact ⟨⟨_, g6, rfl⟩, h _ g6 g4 g5 ⟨_, g1, rfl, rfl⟩ ⟨_, g2, rfl, rfl⟩ ⟨_, g3, rfl, rfl⟩ s6 fun c o x =>
    Heap.get?_push_of_some _ (Heap.get?_push_of_some _ (Heap.get?_push_of_some _ (Heap.get?_push_of_some _ (Heap.get?_push_of_some _ (Heap.get?_push_of_some _ x)))))⟩
theorem call_zip2t {l1 l2 : Addr} {xs ys : Array Value} {Q : Value → Shared → Prop} (hl1 : s.heap.IsTuple l1 xs) (hl2 : s.heap.IsTuple l2 ys)
    (h : ∀ h', IsZip h' (s.heap.objs.size + 4) (s.heap.objs.size + 2) (s.heap.objs.size + 3) .none → IsT h' (s.heap.objs.size + 2) [.ref s.heap.objs.size, .ref (s.heap.objs.size + 1)] →
      IsT h' (s.heap.objs.size + 3) [.none, .none] → h'.IsTupleIter s.heap.objs.size l1 0 → h'.IsTupleIter (s.heap.objs.size + 1) l2 0 → h'.objs.size = s.heap.objs.size + 5 →
      (∀ c o, s.heap.get? c = some o → h'.get? c = some o) → Q (.ref (s.heap.objs.size + 4)) { s with heap := h' }) :
    wpAny (model prog w) A (call (.type "zip") [.ref l1, .ref l2]) Q E s := by
  refine callType_new F.called_zip (by decide) (F.typeCall_zip_2 _ _) (F.newCall_zip_2 _ _) (fun obj => F.args_object_init_3 obj _ _) F.entry_zip_new (meets_zip2 l1 l2 xs ys) ⟨hl1, hl2, ?_⟩
  have s1 : (z3a s.heap l1).objs.size = s.heap.objs.size + 1 := Heap.size_push ..
  have s2 : (z2b s.heap l1 l2).objs.size = s.heap.objs.size + 2 := by rw [Heap.size_push, s1]
  have s3 : (z2c s.heap l1 l2).objs.size = s.heap.objs.size + 3 := by rw [Heap.size_push, s2]
  have s4 : (z2d s.heap l1 l2).objs.size = s.heap.objs.size + 4 := by rw [Heap.size_push, s3]
  have s5 : (z2e s.heap l1 l2).objs.size = s.heap.objs.size + 5 := by rw [Heap.size_push, s4]
  have g5 : (z2e s.heap l1 l2).get? (z2d s.heap l1 l2).objs.size = some _ := Heap.get?_push_size _ rfl
  have g4 : (z2e s.heap l1 l2).get? (z2c s.heap l1 l2).objs.size = some _ := Heap.get?_push_of_some _ (Heap.get?_push_size _ rfl)
  have g3 : (z2e s.heap l1 l2).get? (z2b s.heap l1 l2).objs.size = some _ := Heap.get?_push_of_some _ (Heap.get?_push_of_some _ (Heap.get?_push_size _ rfl))
  have g2 : (z2e s.heap l1 l2).get? (z3a s.heap l1).objs.size = some _ := Heap.get?_push_of_some _ (Heap.get?_push_of_some _ (Heap.get?_push_of_some _ (Heap.get?_push_size _ rfl)))
  have g1 : (z2e s.heap l1 l2).get? s.heap.objs.size = some _ := Heap.get?_push_of_some _ (Heap.get?_push_of_some _ (Heap.get?_push_of_some _ (Heap.get?_push_of_some _ (Heap.get?_push_size _ rfl))))
  show _ ∧ _
  rw [s2, s3, s4] at g5
  rw [s1, s2] at g3
  rw [s3] at g4
  rw [s1] at g2
  rw [s4]
  exact ⟨⟨_, g5, rfl⟩, h _ g5 g3 g4 ⟨_, g1, rfl, rfl⟩ ⟨_, g2, rfl, rfl⟩ s5 fun c o x =>
    Heap.get?_push_of_some _ (Heap.get?_push_of_some _ (Heap.get?_push_of_some _ (Heap.get?_push_of_some _ (Heap.get?_push_of_some _ x))))⟩
end

end
section
variable {prog : Program} {w : World} {p : Program} {loose : List Str} {mean : ExcName → Option Value} {mg mb : Str → Option Value}
  {dp un : Nat} {gd : Option (List Code)} {cn : Str} {cs : Scope} {a : Addr} {ccd : Value} {cl : List (Str × Addr)} {outer : List Env} {A₀ : Around} {base h₀ : Heap} {L : Addr} {m : Str → Option Value} {s : Shared} {Q E : Value → Shared → Prop}
section
variable {A : Around} {env : Env} {elt iter : Expr} {elts : List Expr} {kk : Nat} {tp : Pos} {scope : Scope} {cl : List (Str × Addr)} {pos : Pos} {z : Addr} {fp wr us : List Addr} {n : Nat} {Pt : Nat → Array Value → Prop} {St : Nat → Heap → Prop} {Mid : Nat → Addr → Heap → Prop}
open LCg in
/-- a comprehension whose target is a tuple, over an iterator that hands tuples out; an element may turn the objects us -/
theorem zblock {Q : Value → Shared → Prop} {J : Nat → List Value → List (Addr × Obj) → Prop} {Good : Nat → (Str → Option Value) → Prop} {nx0 : List (Addr × Obj)} (hh : A.handled = none)
    (W : WalksT prog w A z fp wr n Pt St Mid) (hn : n ≤ 8) (hcell : ∀ y ∈ scope.names, y.2 ≠ .cell) (hkind : scope.kind = .function)
    (hst : St 0 s.heap) (hfp : ∀ b ∈ fp, b < s.heap.objs.size) (hwr : ∀ b ∈ wr, h₀.get? b = none ∧ b ≠ L) (hus : ∀ b ∈ us, b < s.heap.objs.size ∧ b ∉ fp)
    (F : Fr h₀ L s.heap m) (N : News h₀ L s.heap nx0) (hj : J 0 [] nx0) (hJ : ∀ i ys nx, J i ys nx → ∀ p ∈ nx, p.1 < s.heap.objs.size ∧ p.1 ∉ wr)
    (hassign : ∀ (C : Addr) (s' : Shared) (T : Addr) (i : Nat) (vals : Array Value) (m' : Str → Option Value) (Q' : Unit → Shared → Prop) (E' : Value → Shared → Prop), s'.heap.IsTuple T vals → Pt i vals → s'.heap.Ns C m' →
      (∀ h' tk m'', Good i m'' → h'.Ns C m'' → (∀ c o, c ≠ C → s'.heap.get? c = some o → h'.get? c = some o) → Q' () { s' with heap := h', toks := tk }) → wpAny (model prog w) A (assign (.Tuple elts kk tp) (compEnvC scope cl C env) (.ref T)) Q' E' s')
    (turn : ∀ (i : Nat) (ys : List Value) (nx : List (Addr × Obj)) (C : Addr) (oC : Obj) (m₂ : Str → Option Value) (h : Heap) (tk : Nat) (E' : Value → Shared → Prop) (Qy : Value → Shared → Prop), i < n → ys.length = i → J i ys nx → Good i m₂ → NsObj oC m₂ → Fr h₀ L h m → News h₀ L h ((C, oC) :: nx) → (∀ p ∈ nx, p.1 < C) →
      (∀ v h' tk' nx', J (i + 1) (ys ++ [v]) nx' → Fr h₀ L h' m → News h₀ L h' nx' → Kept us h h' → Qy v { s with heap := h', toks := tk' }) → wpAny (model prog w) A (eval elt (compEnvC scope cl C env)) Qy E' { s with heap := h, toks := tk })
    (fin : ∀ (ys : List Value) (nx : List (Addr × Obj)) (D : Addr) (h : Heap) (tk : Nat), ys.length = n → J n ys nx → Fr h₀ L h m → News h₀ L h ((D, lst ys) :: nx) → s.heap.get? D = none → Kept (wr ++ us) s.heap h → Q (.ref D) { s with heap := h, toks := tk }) :
    wpAny (model prog w) A (newList []) (fun acc s₃ => wpAny (model prog w) A (newFunctionEnv scope env.globals cl [] env.qual none .none (some env)) (fun cenv s₄ =>
      codeAny (model prog w) A (.compStart (.ListComp elt [⟨.Tuple elts kk tp, iter, [], 0⟩] scope pos) 0 (.ref z) acc { cenv with scope := relabel scope env }) (compPost (model prog w) A E none Q acc cenv.locals) s₄) E s₃) E s := by
  refine wpAny_newObj_type (wpAny_newFunctionEnv hcell (by intro y hy; simp at hy) (fun h₁ hns₁ hsb₁ => ?_) hkind)
  dsimp only at hns₁ hsb₁ ⊢
  generalize hH2 : s.heap.push { cls := .type "list", dict := none, data := .seq ([] : List Value).toArray } = H2 at hns₁ hsb₁ ⊢
  have hC : H2.objs.size = s.heap.objs.size + 1 := by rw [← hH2, Heap.size_push]
  have hDC : s.heap.objs.size ≠ H2.objs.size := by rw [hC]; exact Nat.ne_of_lt (Nat.lt_succ_self _)
  have below : ∀ b, b < s.heap.objs.size → b ≠ H2.objs.size ∧ b ≠ s.heap.objs.size := fun b hb => ⟨by rw [hC]; exact Nat.ne_of_lt (Nat.lt_succ_of_lt hb), Nat.ne_of_lt hb⟩
  have old : ∀ b o, s.heap.get? b = some o → h₁.get? b = some o := fun b o e => hsb₁.extBut b o (below b (Heap.lt_size e)).1 (Heap.get?_push_of_some _ (hH2 ▸ Heap.get?_push_of_some _ e))
  have hacc : h₁.get? s.heap.objs.size = some (lst []) := hsb₁.extBut _ _ hDC (Heap.get?_push_of_some _ (hH2 ▸ Heap.get?_push_size _ rfl))
  have fresh : ∀ a, s.heap.objs.size ≤ a → s.heap.get? a = none := fun a ha => by
    cases e : s.heap.get? a with
    | none => rfl
    | some o' => exact absurd (Heap.lt_size e) (Nat.not_lt.mpr ha)
  have fresh₀ : ∀ a, s.heap.objs.size ≤ a → h₀.get? a = none := fun a ha => by
    cases e : h₀.get? a with
    | none => rfl
    | some o' => have q := F.keep a o' e; rw [fresh a ha] at q; cases q
  have hCge : s.heap.objs.size ≤ H2.objs.size := by rw [hC]; exact Nat.le_succ _
  have hD₀ : h₀.get? s.heap.objs.size = none := fresh₀ _ (Nat.le_refl _)
  have hC₀ : h₀.get? H2.objs.size = none := fresh₀ _ hCge
  have hLlt : L < s.heap.objs.size := F.ns.lt
  have hDL : s.heap.objs.size ≠ L := Ne.symm (below L hLlt).2
  have hCL : H2.objs.size ≠ L := Ne.symm (below L hLlt).1
  have offw : ∀ b ∈ wr, b ≠ H2.objs.size ∧ b ≠ s.heap.objs.size := fun b hb => below b (hfp b (W.sub b hb))
  have Dw : s.heap.objs.size ∉ wr := fun hb => (offw _ hb).2 rfl
  have Cw : H2.objs.size ∉ wr := fun hb => (offw _ hb).1 rfl
  have Du : s.heap.objs.size ∉ us := fun hb => Nat.lt_irrefl _ (hus _ hb).1
  have Cu : H2.objs.size ∉ us := fun hb => Nat.lt_irrefl _ (Nat.lt_of_lt_of_le (hus _ hb).1 hCge)
  -- Fr and the ledger through a change of what the iterator writes
  have frw : ∀ {g g' : Heap}, Fr h₀ L g m → (∀ b o, b ∉ wr → g.get? b = some o → g'.get? b = some o) → Fr h₀ L g' m := fun {g g'} Fg k =>
    ⟨Fg.ns.at' fun o e => k L o (fun hb => (hwr L hb).2 rfl) e, fun b o e => k b o (fun hb => by rw [(hwr b hb).1] at e; cases e) (Fg.keep b o e), Fg.above⟩
  have frC : ∀ {g g' : Heap}, Fr h₀ L g m → (∀ c o, c ≠ H2.objs.size → g.get? c = some o → g'.get? c = some o) → Fr h₀ L g' m := fun {g g'} Fg k =>
    ⟨Fg.ns.at' fun o e => k L o (Ne.symm hCL) e, fun b o e => k b o (fun hb => by rw [hb, hC₀] at e; cases e) (Fg.keep b o e), Fg.above⟩
  have loop : ∀ s₃ : Shared, s₃ = { s with heap := h₁, toks := s.toks + ([] : List (Str × Value)).length } →
      codeAny (model prog w) A (.compLoop (.ListComp elt [⟨.Tuple elts kk tp, iter, [], 0⟩] scope pos) 0 (.ref z) (.ref s.heap.objs.size) (compEnvC scope cl H2.objs.size env))
        (compPost (model prog w) A E none Q (.ref s.heap.objs.size) H2.objs.size) s₃ := by
    rintro s₃ rfl
    refine kcp_loop
      (fun k s' => ∃ h' tk i ys m' nx, s' = { s with heap := h', toks := tk } ∧ i ≤ n ∧ k = n + 1 - i ∧ ys.length = i ∧ St i h' ∧ Fr h₀ L h' m ∧ h'.Ns H2.objs.size m' ∧ h'.get? s.heap.objs.size = some (lst ys) ∧ News h₀ L h' nx ∧ J i ys nx ∧ Kept (wr ++ us) s.heap h') ?_ (n + 1)
      ⟨h₁, _, 0, [], _, nx0, rfl, Nat.zero_le _, rfl, rfl, W.frame _ _ _ hst fun b _ o e => old b o e, F.keeps old, hns₁, hacc, fun p hp => ⟨old _ _ (N p hp).1, (N p hp).2⟩, hj, fun y o e _ => old y o e⟩
    rintro k s' ⟨h', tk, i, ys, m', nx, rfl, hi, rfl, hyl, hst', F', hn', hD', N', hj', K'⟩
    by_cases hlt : i < n
    · refine W.item i _ _ _ hlt hst' fun T vals g tk₂ hP hT hIT hMid hk₂ => ?_
      have hTw : T ∉ wr := W.apart i T g hMid
      refine W.go _ _ _ i T _ _ _ hMid fun g₂ hst₂ hk₃ => ?_
      have kw : ∀ b o, b ∉ wr → h'.get? b = some o → g₂.get? b = some o := fun b o hb e => hk₃ b o hb (hk₂ b o hb e)
      have hIT₂ : g₂.IsTuple T vals := by obtain ⟨o, e, r⟩ := hIT; exact ⟨o, hk₃ T o hTw e, r⟩
      refine hassign H2.objs.size { s with heap := g₂, toks := tk₂ } T i vals m' _ _ hIT₂ hP (hn'.at' fun o e => kw _ o Cw e) fun g₃ tk₃ m'' hG hn₃ hk₄ => ?_
      obtain ⟨oC, heC, hoC⟩ := ns_obj hn₃
      have hJp := hJ i ys nx hj'
      have k3 : ∀ b o, b ∉ wr → b ≠ H2.objs.size → h'.get? b = some o → g₃.get? b = some o := fun b o hb hc e => hk₄ b o hc (kw b o hb e)
      have F₃ : Fr h₀ L g₃ m := frC (frw F' kw) hk₄
      have N₃ : News h₀ L g₃ ((H2.objs.size, oC) :: nx) := fun p hp => by
        rcases List.mem_cons.mp hp with rfl | hp
        · exact ⟨heC, hCL, hC₀⟩
        · exact ⟨k3 _ _ (hJp p hp).2 (below _ (hJp p hp).1).1 (N' p hp).1, (N' p hp).2⟩
      have hD₃ : g₃.get? s.heap.objs.size = some (lst ys) := k3 _ _ Dw hDC hD'
      have hst₃ : St (i + 1) g₃ := W.frame _ _ _ hst₂ fun b hb o e => hk₄ b o (below b (hfp b hb)).1 e
      refine turn i ys nx H2.objs.size oC m'' g₃ tk₃ _ _ hlt hyl hj' hG hoC F₃ N₃ (fun p hp => Nat.lt_of_lt_of_le (hJp p hp).1 hCge) fun v g₄ tk₄ nx' hj₄ F₄ N₄ K₄ => ?_
      have hD₄ : g₄.get? s.heap.objs.size = some (lst ys) := K₄ _ _ hD₃ Du
      have hst₄ : St (i + 1) g₄ := W.frame _ _ _ hst₃ fun b hb o e => K₄ b o e fun hu => (hus b hu).2 hb
      refine append_at (hsz := by show ys.toArray.size ≤ sizeLine; rw [List.size_toArray, sizeLine_eq]; omega) hD₄ fun g₅ hs₅ hD₅ => ?_
      refine ⟨n + 1 - (i + 1), by omega, g₅, tk₄, i + 1, ys ++ [v], m'', nx', rfl, hlt, rfl, by simp [hyl], W.frame _ _ _ hst₄ fun b hb o e => hs₅.extBut b o (below b (hfp b hb)).2 e, F₄.change hs₅ hDL hD₀,
        ((hn₃.at' fun o e => K₄ _ o e Cu).sameBut hs₅ (Ne.symm hDC)), hD₅.trans (congrArg some (lst_snoc ys v)), fun p hp => ⟨hs₅.extBut _ _ (below _ (hJ _ _ _ hj₄ p hp).1).2 (N₄ p hp).1, (N₄ p hp).2⟩, hj₄, fun y o e hy => ?_⟩
      have hy' : y ∉ wr ∧ y ∉ us := by simpa using hy
      have yl := below y (Heap.lt_size e)
      exact hs₅.extBut _ _ yl.2 (K₄ _ _ (k3 _ _ hy'.1 yl.1 (K' y o e hy)) hy'.2)
    · obtain rfl : i = n := Nat.le_antisymm hi (Nat.not_lt.mp hlt)
      refine W.done _ _ _ hst' fun g tk₂ hk₂ => ?_
      refine ⟨m', hn'.at' fun o e => hk₂ _ o Cw e, fun g' hs' => ?_⟩
      have hJp := hJ i ys nx hj'
      refine fin ys nx s.heap.objs.size g' tk₂ hyl hj' ((frw F' hk₂).change hs' hCL hC₀) (fun p hp => ?_) (fresh _ (Nat.le_refl _)) fun y o e hy => ?_
      · rcases List.mem_cons.mp hp with rfl | hp
        · exact ⟨hs'.extBut _ _ hDC (hk₂ _ _ Dw hD'), hDL, hD₀⟩
        · exact ⟨hs'.extBut _ _ (below _ (hJp p hp).1).1 (hk₂ _ _ (hJp p hp).2 (N' p hp).1), (N' p hp).2⟩
      · have hy' : y ∉ wr ∧ y ∉ us := by simpa using hy
        exact hs'.extBut _ _ (below y (Heap.lt_size e)).1 (hk₂ _ _ hy'.1 (K' y o e hy))
  exact codeAny_compStart_list (loop _ rfl) (W.self 0 _ _ _ (W.frame _ _ _ hst fun b _ o e => old b o e) (loop _ rfl))
end

end
section
variable {prog : Program} {w : World} {p : Program} {loose : List Str} {mean : ExcName → Option Value} {mg mb : Str → Option Value}
  {dp un : Nat} {gd : Option (List Code)} {cn : Str} {cs : Scope} {a : Addr} {ccd : Value} {cl : List (Str × Addr)} {outer : List Env} {A₀ : Around} {base h₀ : Heap} {L : Addr} {m : Str → Option Value} {s : Shared} {Q E : Value → Shared → Prop}
section
variable {A : Around}
def zSt3 (z TI TO : Addr) (q1 q2 q3 : Src) (i : Nat) (h : Heap) : Prop := IsZip h z TI TO .none ∧ IsT h TI [.ref q1.i, .ref q2.i, .ref q3.i] ∧ (∃ a b c, IsT h TO [a, b, c]) ∧ q1.At i h ∧ q2.At i h ∧ q3.At i h
def zMid3 (z TI TO : Addr) (q1 q2 q3 : Src) (i : Nat) (T : Addr) (h : Heap) : Prop := IsZip h z TI TO (rawInt T) ∧ IsT h TI [.ref q1.i, .ref q2.i, .ref q3.i] ∧ (∃ a b c, IsT h TO [a, b, c]) ∧ q1.At (i + 1) h ∧ q2.At (i + 1) h ∧ q3.At (i + 1) h ∧ T ∉ [z, TO, q1.i, q2.i, q3.i]
theorem zwalk3 {z TI TO : Addr} {q1 q2 q3 : Src} {n : Nat} (hh : A.handled = none) (D : ZApart z TI TO [q1, q2, q3]) (s1 : q1.xs.size = n) (s2 : q2.xs.size = n) (s3 : q3.xs.size = n) :
    WalksT prog w A z [z, TI, TO, q1.i, q2.i, q3.i, q1.l, q2.l, q3.l] [z, TO, q1.i, q2.i, q3.i] n
      (fun i vals => ∃ x y v, q1.xs[i]? = some x ∧ q2.xs[i]? = some y ∧ q3.xs[i]? = some v ∧ vals = #[x, y, v]) (zSt3 z TI TO q1 q2 q3) (zMid3 z TI TO q1 q2 q3) where
  sub := fun c hc => by simp at hc ⊢; rcases hc with rfl | rfl | rfl | rfl | rfl <;> simp
  frame := fun i h h' hst hk => by
    obtain ⟨a1, a2, ⟨a, b, c, a3⟩, a4, a5, a6⟩ := hst
    exact ⟨hk z (by simp) _ a1, hk TI (by simp) _ a2, ⟨a, b, c, hk TO (by simp) _ a3⟩, a4.ext (hk q1.i (by simp)) (hk q1.l (by simp)), a5.ext (hk q2.i (by simp)) (hk q2.l (by simp)), a6.ext (hk q3.i (by simp)) (hk q3.l (by simp))⟩
  item := fun i s Q E hi hst hQ => by
    obtain ⟨a1, a2, ⟨a, b, c, a3⟩, a4, a5, a6⟩ := hst
    have e1 : q1.xs[i]? = some (q1.xs[i]'(by omega)) := Array.getElem?_eq_getElem _
    have e2 : q2.xs[i]? = some (q2.xs[i]'(by omega)) := Array.getElem?_eq_getElem _
    have e3 : q3.xs[i]? = some (q3.xs[i]'(by omega)) := Array.getElem?_eq_getElem _
    refine next_zip3 D a1 a2 a3 a4 a5 a6 e1 e2 e3 fun h' b1 b2 b3 b4 b5 b6 b7 K => ?_
    have lt : ∀ {c : Addr}, (∃ o, s.heap.get? c = some o) → s.heap.objs.size ≠ c := fun ⟨o, e⟩ => Nat.ne_of_gt (Heap.lt_size e)
    refine hQ s.heap.objs.size _ h' s.toks ⟨_, _, _, e1, e2, e3, rfl⟩ (Nat.le_refl _) ⟨_, b6, rfl, _, rfl⟩ ⟨b1, K _ _ a2 ?_, ⟨_, _, _, b2⟩, b3, b4, b5, ?_⟩ fun c o hc e => K c o e hc
    · have d1 := (D.src q1 (by simp)).2.1
      have d2 := (D.src q2 (by simp)).2.1
      have d3 := (D.src q3 (by simp)).2.1
      simp only [List.mem_cons, List.not_mem_nil, or_false, not_or]
      exact ⟨D.TIz, D.TITO, d1.symm, d2.symm, d3.symm⟩
    · simp only [List.mem_cons, List.not_mem_nil, or_false, not_or]
      exact ⟨lt ⟨_, a1⟩, lt ⟨_, a3⟩, lt a4.iter, lt a5.iter, lt a6.iter⟩
  go := fun elts k pos i T s Q E hm hQ => by
    obtain ⟨a1, a2, ⟨a, b, c, a3⟩, a4, a5, a6, _⟩ := hm
    refine wpAny_letOwnedTupleGo_zip a1 fun h' hz' hs' => hQ h' ⟨hz', hs'.extBut _ _ D.TIz a2, ⟨a, b, c, hs'.extBut _ _ D.TOz a3⟩, ?_, ?_, ?_⟩ fun c o hc e => hs'.extBut _ _ (fun x => hc (by simp [x])) e
    · exact a4.but hs'.extBut (D.src q1 (by simp)).1 (D.src q1 (by simp)).2.2.2.1
    · exact a5.but hs'.extBut (D.src q2 (by simp)).1 (D.src q2 (by simp)).2.2.2.1
    · exact a6.but hs'.extBut (D.src q3 (by simp)).1 (D.src q3 (by simp)).2.2.2.1
  apart := fun i T h hm => hm.2.2.2.2.2.2
  done := fun s Q E hst hQ => by
    obtain ⟨a1, a2, _, a4, _, _⟩ := hst
    refine next_zip_end hh (D.src q1 (by simp)).1 (D.src q1 (by simp)).2.2.2.1 a1 a2 a4 (Array.getElem?_eq_none (by omega)) fun h' K => hQ h' s.toks fun c o hc e => K c o e ?_
    simp only [List.mem_cons, List.not_mem_nil, or_false, not_or] at hc ⊢
    exact ⟨hc.1, hc.2.2.1⟩
  self := fun i s Q E hst hQ => wpAny_pyIter_zip hst.1 hQ

theorem assign3 {env : Env} {a b c : Str} {pa pb pc tp : Pos} {kk : Nat} {T : Addr} {x y v : Value} {m : Str → Option Value} {Q : Unit → Shared → Prop} (hh : A.handled = none) (ht : s.heap.IsTuple T #[x, y, v])
    (ha : env.kindOf a = some .local) (hb : env.kindOf b = some .local) (hc : env.kindOf c = some .local) (hp : (env.scope.kind == .class || (env.scope.kind == .module && env.locals != env.globals)) = false) (hn : s.heap.Ns env.locals m)
    (h : ∀ (h' : Heap) (tk : Nat), h'.Ns env.locals (fun u => if u = c then some v else if u = b then some y else if u = a then some x else m u) → (∀ d o, d ≠ env.locals → s.heap.get? d = some o → h'.get? d = some o) → Q () { s with heap := h', toks := tk }) :
    wpAny (model prog w) A (assign (.Tuple [.Name a pa, .Name b pb, .Name c pc] kk tp) env (.ref T)) Q E s := by
  refine wpAny_assign_Tuple hh ht rfl rfl fun h₁ he₁ => ?_
  have hL : env.locals ≠ s.heap.objs.size := Nat.ne_of_lt hn.lt
  have hn₁ : h₁.Ns env.locals m := hn.at' fun o e => he₁ _ o hL e
  have up₁ : ∀ c o, s.heap.get? c = some o → h₁.get? c = some o := fun c o e => he₁ c o (Nat.ne_of_lt (Heap.lt_size e)) e
  show wpAny _ _ (assignInOrder [assign (.Name a pa) env, assign (.Name b pb) env, assign (.Name c pc) env] [x, y, v]) _ _ _
  refine assignInOrder_cons (wpAny_assign_Name (wpAny_storeName_local ha hn₁ (fun h₂ hn₂ hs₂ => ?_) hp))
  refine assignInOrder_cons (wpAny_assign_Name (wpAny_storeName_local hb hn₂ (fun h₃ hn₃ hs₃ => ?_) hp))
  refine assignInOrder_cons (wpAny_assign_Name (wpAny_storeName_local hc hn₃ (fun h₄ hn₄ hs₄ => ?_) hp))
  refine assignInOrder_nil ?_
  exact h h₄ _ hn₄ fun d o hd e => hs₄.extBut d o hd (hs₃.extBut d o hd (hs₂.extBut d o hd (up₁ d o e)))

open LCg in
/-- [elt for a, b, c in zip(tuple, list, list)], an element may turn the objects us of the ledger -/
theorem zcomp3 {env : Env} {elt iter : Expr} {a b c : Str} {pa pb pc tp pos : Pos} {kk : Nat} {scope : Scope} {cl : List (Str × Addr)} {us : List Addr} {l1 l2 l3 : Addr} {xs ys zs : List Value} {n2 n3 : Nat} {news nx0 : List (Addr × Obj)}
    {Q : Value → Shared → Prop} (J : Nat → List Value → List (Addr × Obj) → Prop) (hh : A.handled = none) (hcell : ∀ y ∈ scope.names, y.2 ≠ .cell) (hkind : scope.kind = .function)
    (hka : scope.names.lookup a = some .local) (hkb : scope.names.lookup b = some .local) (hkc : scope.names.lookup c = some .local) (hab : a ≠ b) (hac : a ≠ c) (hbc : b ≠ c)
    (F : Fr h₀ L s.heap m) (N : News h₀ L s.heap news) (m1 : (l1, ({ cls := .type "tuple", data := .seq xs.toArray } : Obj)) ∈ news) (m2 : (l2, listOf ys.toArray n2) ∈ news) (m3 : (l3, listOf zs.toArray n3) ∈ news)
    (s1 : xs.length = 3) (s2 : ys.length = 3) (s3 : zs.length = 3) (hus : ∀ u ∈ us, (∃ o, (u, o) ∈ news) ∧ u ≠ l1 ∧ u ≠ l2 ∧ u ≠ l3)
    (hx0 : ∀ p ∈ nx0, p ∈ news) (hj : J 0 [] nx0) (hJ : ∀ i ys nx, J i ys nx → ∀ p ∈ nx, ∃ o, (p.1, o) ∈ news)
    (turn : ∀ (i : Nat) (us' : List Value) (nx : List (Addr × Obj)) (C : Addr) (oC : Obj) (m₂ : Str → Option Value) (h : Heap) (tk : Nat) (x y v : Value) (E' : Value → Shared → Prop) (Qy : Value → Shared → Prop), i < 3 → us'.length = i → J i us' nx → xs[i]? = some x → ys[i]? = some y → zs[i]? = some v →
      m₂ a = some x → m₂ b = some y → m₂ c = some v → NsObj oC m₂ → Fr h₀ L h m → News h₀ L h ((C, oC) :: nx) → (∀ p ∈ nx, p.1 < C) →
      (∀ v h' tk' nx', J (i + 1) (us' ++ [v]) nx' → Fr h₀ L h' m → News h₀ L h' nx' → Kept us h h' → Qy v { s with heap := h', toks := tk' }) → wpAny (model prog w) A (eval elt (compEnvC scope cl C env)) Qy E' { s with heap := h, toks := tk })
    (fin : ∀ (us' : List Value) (nx : List (Addr × Obj)) (D : Addr) (h : Heap) (tk : Nat), us'.length = 3 → J 3 us' nx → Fr h₀ L h m → News h₀ L h ((D, lst us') :: nx) → s.heap.get? D = none → Kept us s.heap h → Q (.ref D) { s with heap := h, toks := tk }) :
    wpAny (model prog w) A (call (.type "zip") [.ref l1, .ref l2, .ref l3]) (fun xv s₁ => wpAny (model prog w) A (pyIter xv) (fun it s₂ => wpAny (model prog w) A (newList []) (fun acc s₃ =>
      wpAny (model prog w) A (newFunctionEnv scope env.globals cl [] env.qual none .none (some env)) (fun cenv s₄ =>
        codeAny (model prog w) A (.compStart (.ListComp elt [⟨.Tuple [.Name a pa, .Name b pb, .Name c pc] kk tp, iter, [], 0⟩] scope pos) 0 it acc { cenv with scope := relabel scope env }) (compPost (model prog w) A E none Q acc cenv.locals) s₄) E s₃) E s₂) E s₁) E s := by
  have t1 : s.heap.IsTuple l1 xs.toArray := ⟨_, (N _ m1).1, rfl, _, rfl⟩
  have t2 : s.heap.IsList l2 ys.toArray := ⟨_, (N _ m2).1, rfl, _, rfl⟩
  have t3 : s.heap.IsList l3 zs.toArray := ⟨_, (N _ m3).1, rfl, _, rfl⟩
  have b1 : l1 < s.heap.objs.size := Heap.lt_size (N _ m1).1
  have b2 : l2 < s.heap.objs.size := Heap.lt_size (N _ m2).1
  have b3 : l3 < s.heap.objs.size := Heap.lt_size (N _ m3).1
  have fresh : ∀ d, s.heap.objs.size ≤ d → s.heap.get? d = none := fun d ha => by
    cases e : s.heap.get? d with
    | none => rfl
    | some o' => exact absurd (Heap.lt_size e) (Nat.not_lt.mpr ha)
  refine call_zip3 t1 t2 t3 fun g hz hTI hTO hi1 hi2 hi3 hsz hk => ?_
  refine wpAny_pyIter_zip hz ?_
  generalize hS : s.heap.objs.size = S at *
  have hS' : ∀ y o, s.heap.get? y = some o → y < S := fun y o e => hS ▸ Heap.lt_size e
  have ne : ∀ {x y : Nat}, x < y → x ≠ y := fun h => Nat.ne_of_lt h
  have D : ZApart (S + 5) (S + 3) (S + 4) [⟨S, l1, true, xs.toArray⟩, ⟨S + 1, l2, false, ys.toArray⟩, ⟨S + 2, l3, false, zs.toArray⟩] := by
    have l1S := ltN b1
    have l2S := ltN b2
    have l3S := ltN b3
    refine ⟨?_, ?_, ?_, ?_, ?_, ?_⟩
    · show (S + 3 : Nat) ≠ S + 5; omega
    · show (S + 4 : Nat) ≠ S + 5; omega
    · show (S + 3 : Nat) ≠ S + 4; omega
    · intro q hq
      simp only [List.mem_cons, List.not_mem_nil, or_false] at hq
      rcases hq with rfl | rfl | rfl <;> (dsimp only; refine ⟨?_, ?_, ?_, ?_, ?_⟩ <;> (refine neN ?_; omega))
    · intro q hq q' hq'
      simp only [List.mem_cons, List.not_mem_nil, or_false] at hq hq'
      rcases hq with rfl | rfl | rfl <;> rcases hq' with rfl | rfl | rfl <;> (dsimp only; refine neN ?_; omega)
    · simp
  have W := zwalk3 (prog := prog) (w := w) (n := 3) hh D (by simpa using s1) (by simpa using s2) (by simpa using s3)
  have hnew : ∀ b ∈ [S + 5, S + 4, S, S + 1, S + 2], h₀.get? b = none ∧ b ≠ L := by
    intro b hb
    have hbS : (S : Nat) ≤ b := by
      simp only [List.mem_cons, List.not_mem_nil, or_false] at hb
      rcases hb with rfl | rfl | rfl | rfl | rfl <;> omega
    refine ⟨?_, fun e => ?_⟩
    · cases e : h₀.get? b with
      | none => rfl
      | some o => have q := F.keep b o e; rw [fresh b hbS] at q; cases q
    · have hl : L < s.heap.objs.size := F.ns.lt
      rw [hS] at hl
      rw [e] at hbS
      exact Nat.lt_irrefl _ (Nat.lt_of_lt_of_le hl hbS)
  refine zblock (s := { s with heap := g }) (us := us) (J := J) (nx0 := nx0) (Good := fun i m'' => ∃ x y v, xs[i]? = some x ∧ ys[i]? = some y ∧ zs[i]? = some v ∧ m'' a = some x ∧ m'' b = some y ∧ m'' c = some v) hh W (by decide) hcell hkind
    ⟨hz, hTI, ⟨_, _, _, hTO⟩, ⟨hi1, ?_⟩, ⟨hi2, ?_⟩, ⟨hi3, ?_⟩⟩ ?_ hnew ?_ (F.keeps hk) (fun p hp => ⟨hk _ _ (N p (hx0 p hp)).1, (N p (hx0 p hp)).2⟩) hj ?_ ?_ ?_ ?_
  · obtain ⟨o, e, r⟩ := t1; exact ⟨o, hk _ _ e, r⟩
  · obtain ⟨o, e, r⟩ := t2; exact ⟨o, hk _ _ e, r⟩
  · obtain ⟨o, e, r⟩ := t3; exact ⟨o, hk _ _ e, r⟩
  · intro d hd
    show d < g.objs.size
    rw [hsz]
    have l1S := ltN b1
    have l2S := ltN b2
    have l3S := ltN b3
    simp only [List.mem_cons, List.not_mem_nil, or_false] at hd
    rcases hd with rfl | rfl | rfl | rfl | rfl | rfl | rfl | rfl | rfl <;> (refine ltN ?_; (try dsimp only); omega)
  · intro u hu
    obtain ⟨⟨o, hm⟩, u1, u2, u3⟩ := hus u hu
    have huS : u < S := hS' u o (N _ hm).1
    refine ⟨?_, fun hd => ?_⟩
    · show u < g.objs.size
      rw [hsz]
      exact Nat.lt_of_lt_of_le huS (Nat.le_add_right _ _)
    · simp only [List.mem_cons, List.not_mem_nil, or_false] at hd
      have huS' := ltN huS
      rcases hd with rfl | rfl | rfl | rfl | rfl | rfl | rfl | rfl | rfl
      · omega
      · omega
      · omega
      · (try dsimp only at huS'); omega
      · (try dsimp only at huS'); omega
      · (try dsimp only at huS'); omega
      · exact u1 rfl
      · exact u2 rfl
      · exact u3 rfl
  · intro i us' nx hj' p hp
    obtain ⟨o, hm⟩ := hJ i us' nx hj' p hp
    have hpS : p.1 < S := hS' _ o (N _ hm).1
    refine ⟨?_, fun hd => ?_⟩
    · show p.1 < g.objs.size
      rw [hsz]
      exact Nat.lt_of_lt_of_le hpS (Nat.le_add_right _ _)
    · simp only [List.mem_cons, List.not_mem_nil, or_false] at hd
      have hpS' := ltN hpS
      rcases hd with e | e | e | e | e <;> (rw [e] at hpS'; (try dsimp only at hpS'); omega)
  · rintro C s' T i vals m' Q' E' hT ⟨x, y, v, e1, e2, e3, rfl⟩ hn hQ
    refine assign3 (env := compEnvC scope cl C env) hh hT (lookup_relabel_local hka) (lookup_relabel_local hkb) (lookup_relabel_local hkc) (by simp [compEnvC, relabel, hkind]) hn fun h' tk hn' hk' => ?_
    exact hQ h' tk _ ⟨x, y, v, by simpa using e1, by simpa using e2, by simpa using e3, by simp [hab, hac], by simp [hbc], by simp⟩ hn' hk'
  · rintro i us' nx C oC m₂ h tk E' Qy hi hl hj' ⟨x, y, v, e1, e2, e3, g1, g2, g3⟩ hC F' N' hlt hq
    exact turn i us' nx C oC m₂ h tk x y v E' Qy hi hl hj' e1 e2 e3 g1 g2 g3 hC F' N' hlt hq
  · intro us' nx D' h tk hl hj' F' N' hD K
    refine fin us' nx D' h tk hl hj' F' N' ?_ fun y o e hy => ?_
    · cases e : s.heap.get? D' with
      | none => rfl
      | some o => have q := hk _ _ e; have q' : g.get? D' = none := hD; rw [q'] at q; cases q
    · refine K y o (hk y o e) fun hm => ?_
      rcases List.mem_append.mp hm with hm | hm
      · have hyS := ltN (hS' y o e)
        simp only [List.mem_cons, List.not_mem_nil, or_false] at hm
        rcases hm with e | e | e | e | e <;> (rw [e] at hyS; (try dsimp only at hyS); omega)
      · exact hy hm
end

end
section
variable {prog : Program} {w : World} {p : Program} {loose : List Str} {mean : ExcName → Option Value} {mg mb : Str → Option Value}
  {dp un : Nat} {gd : Option (List Code)} {cn : Str} {cs : Scope} {a : Addr} {ccd : Value} {cl : List (Str × Addr)} {outer : List Env} {A₀ : Around} {base h₀ : Heap} {L : Addr} {m : Str → Option Value} {s : Shared} {Q E : Value → Shared → Prop}
section
variable {A : Around}
theorem lc_tuple {env : Env} {elt target iter : Expr} {ifs : List Expr} {scope : Scope} {pos : Pos} {cl : List (Str × Addr)} {Q : Value → Shared → Prop} (hs : ∀ x, foldedSetIterable iter env x = pure x) (hclos : closureFor scope env = pure cl)
    (hkind : scope.kind = .function) (hnames : ∀ x ∈ scope.names, x.2 = .local → scope.names.lookup x.1 = some .local)
    (h : wpAny (model prog w) A (eval iter env) (fun xv s₁ => wpAny (model prog w) A (pyIter xv) (fun it s₂ => wpAny (model prog w) A (newList []) (fun acc s₃ =>
      wpAny (model prog w) A (newFunctionEnv scope env.globals cl [] env.qual none .none (some env)) (fun cenv s₄ =>
        codeAny (model prog w) A (.compStart (.ListComp elt [⟨target, iter, ifs, 0⟩] scope pos) 0 it acc { cenv with scope := relabel scope env }) (compPost (model prog w) A E none Q acc cenv.locals) s₄) E s₃) E s₂) E s₁) E s) :
    wpAny (model prog w) A (eval (.ListComp elt [⟨target, iter, ifs, 0⟩] scope pos) env) Q E s := by
  rw [eval_ListComp]
  exact wpAny_comprehension_free (use := none) rfl hs hclos hkind hnames h
open LCg in
theorem step_zip {env : Env} {elt iter : Expr} {a b c : Str} {pa pb pc tp ps : Pos} {kk : Nat} {scope : Scope} {cl : List (Str × Addr)} {l1 l2 l3 bx q cb : Addr} {xs ys zs vq : List Value} {n2 n3 nb nl : Nat} {pos : Int} {t : Tok} {oc : Obj} {news : List (Addr × Obj)} {g : Obj → List (Addr × Obj)} {Q : Value → Shared → Prop}
    (hh : A.handled = none) (hcell : ∀ y ∈ scope.names, y.2 ≠ .cell) (hkind : scope.kind = .function)
    (hka : scope.names.lookup a = some .local) (hkb : scope.names.lookup b = some .local) (hkc : scope.names.lookup c = some .local) (hab : a ≠ b) (hac : a ≠ c) (hbc : b ≠ c)
    (F : Fr h₀ L s.heap m) (N : News h₀ L s.heap news) (U : UpdF bx (listOf [.ref q, .int pos t].toArray nb) news g) (hq : (q, listOf vq.toArray nl) ∈ news) (hcl : cl.lookup (Str.ofString "box") = some cb) (hcb : (cb, oc) ∈ news) (hcd : oc.data = .cell (some (.ref bx)))
    (m1 : (l1, ({ cls := .type "tuple", data := .seq xs.toArray } : Obj)) ∈ news) (m2 : (l2, listOf ys.toArray n2) ∈ news) (m3 : (l3, listOf zs.toArray n3) ∈ news)
    (s1 : xs.length = 3) (s2 : ys.length = 3) (s3 : zs.length = 3) (ix : ∀ v ∈ xs, ∃ n t, v = .int n t) (iy : ∀ v ∈ ys, ∃ n t, v = .int n t) (iz : ∀ v ∈ zs, ∃ n t, v = .int n t)
    (d1 : Dif bx l1) (d2 : Dif bx l2) (d3 : Dif bx l3)
    (turn : ∀ (p : Int) (tp : Tok) (nb' : Nat) (C : Addr) (oC : Obj) (m₂ : Str → Option Value) (h : Heap) (tk : Nat) (x y v : Int) (tx ty tv : Tok) (E' : Value → Shared → Prop) (Qy : Value → Shared → Prop), pos ≤ p → p ≤ pos + 2 →
      m₂ a = some (.int x tx) → m₂ b = some (.int y ty) → m₂ c = some (.int v tv) → NsObj oC m₂ → Fr h₀ L h m → News h₀ L h [(C, oC), (bx, listOf [.ref q, .int p tp].toArray nb'), (q, listOf vq.toArray nl), (cb, oc)] → Dif bx C → Dif q C → Dif cb C →
      (∀ (r : Int) (tr : Tok) (h' : Heap) (tk' : Nat) (tp' : Tok) (nb'' : Nat), Fr h₀ L h' m → News h₀ L h' [(bx, listOf [.ref q, .int (p + 1) tp'].toArray nb''), (q, listOf vq.toArray nl), (cb, oc)] → Kept [bx] h h' → Qy (.int r tr) { s with heap := h', toks := tk' }) →
      wpAny (model prog w) A (eval elt (compEnvC scope cl C env)) Qy E' { s with heap := h, toks := tk })
    (fin : ∀ (c1 c2 c3 : Int) (t1 t2 t3 : Tok) (D : Addr) (h : Heap) (tk : Nat) (tp : Tok) (nb' : Nat), AllNe D news → Fr h₀ L h m → News h₀ L h ((D, LCg.lst [.int c1 t1, .int c2 t2, .int c3 t3]) :: g (listOf [.ref q, .int (pos + 3) tp].toArray nb')) → Q (.ref D) { s with heap := h, toks := tk }) :
    wpAny (model prog w) A (call (.type "zip") [.ref l1, .ref l2, .ref l3]) (fun xv s₁ => wpAny (model prog w) A (pyIter xv) (fun it s₂ => wpAny (model prog w) A (newList []) (fun acc s₃ =>
      wpAny (model prog w) A (newFunctionEnv scope env.globals cl [] env.qual none .none (some env)) (fun cenv s₄ =>
        codeAny (model prog w) A (.compStart (.ListComp elt [⟨.Tuple [.Name a pa, .Name b pb, .Name c pc] kk tp, iter, [], 0⟩] scope ps) 0 it acc { cenv with scope := relabel scope env }) (compPost (model prog w) A E none Q acc cenv.locals) s₄) E s₃) E s₂) E s₁) E s := by
  have hbx := (updF_rest U).1
  have at_mem : ∀ {l : List Value} {i : Nat} {v : Value}, l[i]? = some v → v ∈ l := fun e => List.mem_of_getElem? e
  refine zcomp3 (us := [bx]) (nx0 := [(bx, listOf [.ref q, .int pos t].toArray nb), (q, listOf vq.toArray nl), (cb, oc)])
    (fun i us nx => ∃ tp nb' ns, IntsAre us ns ∧ nx = [(bx, listOf [.ref q, .int (pos + (i : Int)) tp].toArray nb'), (q, listOf vq.toArray nl), (cb, oc)]) hh hcell hkind hka hkb hkc hab hac hbc F N m1 m2 m3 s1 s2 s3 ?_ ?_ ?_ ?_ ?_ ?_
  · intro u hu
    rw [List.mem_singleton.mp hu]
    exact ⟨⟨_, hbx⟩, d1, d2, d3⟩
  · exact List.forall_mem_cons.mpr ⟨hbx, List.forall_mem_cons.mpr ⟨hq, List.forall_mem_cons.mpr ⟨hcb, List.forall_mem_nil _⟩⟩⟩
  · exact ⟨t, nb, [], .nil, by simp⟩
  · rintro i us nx ⟨tp, nb', ns, _, rfl⟩
    exact List.forall_mem_cons.mpr ⟨⟨_, hbx⟩, List.forall_mem_cons.mpr ⟨⟨_, hq⟩, List.forall_mem_cons.mpr ⟨⟨_, hcb⟩, List.forall_mem_nil _⟩⟩⟩
  · rintro i us nx C oC m₂ h tk x y v E' Qy hi hl ⟨tp, nb', ns, hns, rfl⟩ e1 e2 e3 g1 g2 g3 hC F' N' hlt hqy
    obtain ⟨x, tx, rfl⟩ := ix x (at_mem e1)
    obtain ⟨y, ty, rfl⟩ := iy y (at_mem e2)
    obtain ⟨v, tv, rfl⟩ := iz v (at_mem e3)
    refine turn (pos + (i : Int)) tp nb' C oC m₂ h tk x y v tx ty tv E' Qy (by omega) (by omega) g1 g2 g3 hC F' N' (Nat.ne_of_lt (hlt _ (.head _))) (Nat.ne_of_lt (hlt _ (.tail _ (.head _)))) (Nat.ne_of_lt (hlt _ (.tail _ (.tail _ (.head _))))) fun r tr h' tk' tp' nb'' F'' N'' K => ?_
    refine hqy (.int r tr) h' tk' _ ⟨tp', nb'', ns ++ [r], IntsAre.append hns (.cons _ _ .nil), ?_⟩ F'' N'' K
    have e : pos + (i : Int) + 1 = pos + ((i + 1 : Nat) : Int) := by omega
    rw [e]
  · rintro us nx D h tk hl ⟨tp, nb', ns, hns, rfl⟩ F' N' hD K
    have three : ∃ c1 c2 c3 t1 t2 t3, us = [.int c1 t1, .int c2 t2, .int c3 t3] := by
      cases hns with
      | nil => simp at hl
      | cons c1 t1 h2 =>
        cases h2 with
        | nil => simp at hl
        | cons c2 t2 h3 =>
          cases h3 with
          | nil => simp at hl
          | cons c3 t3 h4 =>
            cases h4 with
            | nil => exact ⟨_, _, _, _, _, _, rfl⟩
            | cons c4 t4 h5 => simp at hl
    obtain ⟨c1, c2, c3, t1, t2, t3, rfl⟩ := three
    refine fin c1 c2 c3 t1 t2 t3 D h tk tp nb' (allNe_of hD N) F' fun p hp => ?_
    rcases List.mem_cons.mp hp with rfl | hp
    · exact N' _ (.head _)
    · exact one_turned N U (news_sub N' fun p hp => .tail _ hp) (.head _) K p hp
end

end
section
variable {prog : Program} {w : World} {p : Program} {loose : List Str} {mean : ExcName → Option Value} {mg mb : Str → Option Value}
  {dp un : Nat} {gd : Option (List Code)} {cn : Str} {cs : Scope} {a : Addr} {ccd : Value} {cl : List (Str × Addr)} {outer : List Env} {A₀ : Around} {base h₀ : Heap} {L : Addr} {m : Str → Option Value} {s : Shared} {Q E : Value → Shared → Prop}
local macro_rules | `(tactic| walk_at "pad") => `(tactic| skip)
local macro_rules | `(tactic| walk_at "execs cons") => `(tactic| (k_here; (with_reducible refine gen_toks ?_); intro tk; (with_reducible refine wpAny_execs_cons ?_); (try dsimp only); (try k_fold)))


theorem marks_len {ws : List Value} {a b : Nat} (h : IntsAre ws ((List.replicate a [(2 : Int)]).flatten ++ (List.replicate b [(1 : Int)]).flatten)) : ws.length = a + b := by
  rw [h.length]; simp
theorem toNat_lt3 {r k : Int} (h0 : 0 ≤ r) (h : r < k) : (r.toNat : Int) < k := by omega
local macro_rules | `(tactic| walk_at "my ints") => `(tactic| first | exact List.forall_mem_nil _ | (refine List.forall_mem_cons.mpr ⟨⟨_, _, rfl⟩, ?myI⟩; (case myI => walk_at "my ints")))
@[reducible] def stopsStep (n : Nat) : Prop := n = 96
local macro_rules | `(tactic| walk_at "call ref") => `(tactic| k_dflt (refine stopCall (P := stopsStep) (by decide) ?_))
local macro_rules | `(tactic| walk_at "eval ListComp") => `(tactic| refine stop ?_)
local macro_rules | `(tactic| walk_at "CompSrcT") => `(tactic| refine stop ?_)
local macro_rules | `(tactic| walk_at "call builtin:len") => `(tactic| refine stop ?_)
local macro_rules | `(tactic| walk_at "call type:zip") => `(tactic| refine stop ?_)
theorem step_core {b q tb : Addr} {pos : Int} {t : Tok} {vq : List Value} {nq : List Int} {nb nl : Nat} {zb ob cb : Int} {u1 u2 u3 : Tok}
    (B : Below A₀ base outer h₀) (F : Fr h₀ L s.heap m) (X : (hd.heap_39 w.params).In h₀) (N : News h₀ L s.heap [(b, listOf [.ref q, .int pos t].toArray nb), (q, listOf vq.toArray nl), (tb, tup3 zb ob cb u1 u2 u3)]) (T : Top p loose mean mg mb h₀) (hk : cs.kind = .function)
    (hI : IntsAre vq nq) (hlen : nq.length ≤ 63) (hbq : Dif b q) (hbt : Dif b tb) (hdp : dp + 3 < recursionLimit) (hp0 : 0 ≤ pos) (hp1 : pos ≤ 900)
    (hnone : ∀ (R lm : Addr) (vs : List Value) (ns : List Int) (pos' : Int) (t' : Tok) (nb' : Nat) (h' : Heap) (tk' : Nat), IntsAre vs ns → ns.length ≤ 3 → pos ≤ pos' → pos' ≤ pos + 9 → s.heap.get? R = none → s.heap.get? lm = none → Dif lm R →
      Fr h₀ L h' m → News h₀ L h' [(R, { cls := .type "tuple", data := .seq [.none, .ref lm].toArray }), (lm, listOf vs.toArray 0), (b, listOf [.ref q, .int pos' t'].toArray nb')] → Kept [b] s.heap h' → Q (.ref R) { s with heap := h', toks := tk' })
    (hsome : ∀ (R lm kc : Addr) (vs : List Value) (ns : List Int) (zc oc cc : Int) (a1 a2 a3 : Tok) (pos' : Int) (t' : Tok) (nb' : Nat) (h' : Heap) (tk' : Nat), IntsAre vs ns → ns.length ≤ 3 → pos ≤ pos' → pos' ≤ pos + 9 → s.heap.get? R = none → s.heap.get? lm = none → s.heap.get? kc = none → Dif lm R → Dif kc R → Dif lm kc →
      Fr h₀ L h' m → News h₀ L h' [(R, { cls := .type "tuple", data := .seq [.ref kc, .ref lm].toArray }), (lm, listOf vs.toArray 0), (kc, tup3 zc oc cc a1 a2 a3), (b, listOf [.ref q, .int pos' t'].toArray nb')] → Kept [b] s.heap h' → Q (.ref R) { s with heap := h', toks := tk' }) :
    wpAny (model prog w) (ktrTop dp un gd cn cs L a ccd cl outer) (call (.ref 101) [.ref b, .ref tb]) Q E s := by
  refine wpAny_call ?_
  k_dflt cell_enter
  repeat' (first | ((with_reducible refine go ?_); (first | ((k_here; (with_reducible show wpAny _ _ (call (Value.type "zip") [Value.ref _, Value.ref _, Value.ref _]) _ _ _); k_dflt (refine' step_zip ?hhQ5 ?hcellQ5 ?hkindQ5 ?hkaQ5 ?hkbQ5 ?hkcQ5 ?habQ5 ?hacQ5 ?hbcQ5 ?FQ5 ?NQ5 ?UQ5 ?hqQ5 ?hclQ5 ?hcbQ5 ?hcdQ5 ?m1Q5 ?m2Q5 ?m3Q5 ?s1Q5 ?s2Q5 ?s3Q5 ?ixQ5 ?iyQ5 ?izQ5 ?d1Q5 ?d2Q5 ?d3Q5 ?_ ?_; (case hhQ5 => rfl); (case hcellQ5 => decide); (case hkindQ5 => rfl); (case hkaQ5 => rfl); (case hkbQ5 => rfl); (case hkcQ5 => rfl); (case habQ5 => decide); (case hacQ5 => decide); (case hbcQ5 => decide); (case FQ5 => k_asm); (case NQ5 => k_asm); (case hclQ5 => rfl); (case hcbQ5 => k_mem); (case hcdQ5 => assumption); (case UQ5 => k_updF); (case hqQ5 => k_mem); (case m1Q5 => k_mem); (case m2Q5 => k_mem); (case m3Q5 => k_mem); (case s1Q5 => rfl); (case s2Q5 => rfl); (case s3Q5 => rfl); (case ixQ5 => walk_at "my ints"); (case iyQ5 => walk_at "my ints"); (case izQ5 => walk_at "my ints"); (case d1Q5 => exact Dif.mk (by k_ne)); (case d2Q5 => exact Dif.mk (by k_ne)); (case d3Q5 => exact Dif.mk (by k_ne))); (focus (intro p9 tp9 nb9 C9 oC9 m9 h9 tk9 x9 y9 v9 tx9 ty9 tv9 E9 Qy9 hp9 hp99 g19 g29 g39 hC9 F9 N9 dd1 dd2 dd3 hq9; (try dsimp only); (repeat' (first | ((with_reducible refine go ?_); (first | ((k_here; (with_reducible show wpAny _ _ (call (Value.type "zip") [Value.ref _, Value.ref _, Value.ref _]) _ _ _); k_dflt (refine' step_zip ?hhQ5 ?hcellQ5 ?hkindQ5 ?hkaQ5 ?hkbQ5 ?hkcQ5 ?habQ5 ?hacQ5 ?hbcQ5 ?FQ5 ?NQ5 ?UQ5 ?hqQ5 ?hclQ5 ?hcbQ5 ?hcdQ5 ?m1Q5 ?m2Q5 ?m3Q5 ?s1Q5 ?s2Q5 ?s3Q5 ?ixQ5 ?iyQ5 ?izQ5 ?d1Q5 ?d2Q5 ?d3Q5 ?_ ?_; (case hhQ5 => rfl); (case hcellQ5 => decide); (case hkindQ5 => rfl); (case hkaQ5 => rfl); (case hkbQ5 => rfl); (case hkcQ5 => rfl); (case habQ5 => decide); (case hacQ5 => decide); (case hbcQ5 => decide); (case FQ5 => k_asm); (case NQ5 => k_asm); (case hclQ5 => rfl); (case hcbQ5 => k_mem); (case hcdQ5 => assumption); (case UQ5 => k_updF); (case hqQ5 => k_mem); (case m1Q5 => k_mem); (case m2Q5 => k_mem); (case m3Q5 => k_mem); (case s1Q5 => rfl); (case s2Q5 => rfl); (case s3Q5 => rfl); (case ixQ5 => walk_at "my ints"); (case iyQ5 => walk_at "my ints"); (case izQ5 => walk_at "my ints"); (case d1Q5 => exact Dif.mk (by k_ne)); (case d2Q5 => exact Dif.mk (by k_ne)); (case d3Q5 => exact Dif.mk (by k_ne))); (focus (intro p9 tp9 nb9 C9 oC9 m9 h9 tk9 x9 y9 v9 tx9 ty9 tv9 E9 Qy9 hp9 hp99 g19 g29 g39 hC9 F9 N9 dd1 dd2 dd3 hq9; (try dsimp only); k_steps; (all_goals exact hq9 _ _ _ _ _ _ (by assumption) (news_sub (by assumption) (by lcg_sub)) (by assumption)))); intro c19 c29 c39 t19 t29 t39 D9 h9 tk9 tp9 nb9 a9 F9 N9; (try (simp only [AllNe, and_true] at a9; repeat (have hdf := And.left a9; replace a9 := And.right a9))); (try dsimp only at N9); (try dsimp only))) | ((k_here; (with_reducible show wpAny _ _ (eval (Expr.ListComp _ [⟨Expr.Tuple _ _ _, _, _, _⟩] _ _) _) _ _ _); k_dflt (refine lc_tuple (by intro _; with_unfolding_all rfl) (by with_unfolding_all rfl) (by rfl) (by decide) ?_))) | ((k_here; (with_reducible show wpAny _ _ (call (Value.builtin "len") [Value.ref _]) _ _ _); k_dflt (refine len_list (by is_list) (by (simp only [List.size_toArray]; omega)) ?_))) | ((k_here; (rename IntsAre _ (_ ++ _) => hmk); (have hml := marks_len hmk); k_dflt (refine LCt.CompSrcT.ledger (by rfl) (by k_asm) (by k_asm) (by k_mem) ?szQ2 ?_; (case szQ2 => (rw [List.size_toArray, sizeLine_eq]; omega)); intro g'; refine comp_any (Or.inr ⟨_, by k_mem, rfl, _, rfl⟩) (ints_at hmk) ?_ ?_); (focus (intro k9 t9 ys9 I9 oI9 C9 oC9 D9 m9 h9 tk9 E9 Qy9 Qe9 hC9 hx9 F9 N9 hy9 he9; (try dsimp only); k_steps; (any_goals (first | exact hy9 _ _ _ (by assumption) (by assumption) | exact he9 _ _ (by assumption) (by assumption))))); intro ys9 hlen9; (try rw [List.size_toArray] at hlen9))) | ((k_here; lct_look; k_dflt (refine LCt.ListComp_T (F₀ := by k_asm) (by with_unfolding_all rfl) (by decide) (by rfl) (by decide) (by rfl) ?_))) | ((k_here; (with_reducible show wpAny _ _ (call (Value.ref 96) [Value.ref _, Value.int _ _]) _ _ _); k_dflt (apply take_spec; walk_at "my six"; (focus k_updF); (focus k_mem); (focus l_ints); walk_at "my le"; (focus k_ne); (focus ktr_room); omega; omega; omega; omega); intro r9 t9 u9 h9 tk9 nb9 r0 r1 F9 N9 K9; (try dsimp only at N9); (try dsimp only); (try k_sweep); (try k_fold))))) | (k_unfold; (try dsimp only)) | (k_end; kc_close) | walk1 | (dsimp only; walk1) | (leave1; (try dsimp only)) | fail "no step")); (all_goals exact hq9 _ _ _ _ _ _ (by assumption) (news_sub (by assumption) (by lcg_sub)) (by assumption)))); intro c19 c29 c39 t19 t29 t39 D9 h9 tk9 tp9 nb9 a9 F9 N9; (try (simp only [AllNe, and_true] at a9; repeat (have hdf := And.left a9; replace a9 := And.right a9))); (try dsimp only at N9); (try dsimp only))) | ((k_here; (with_reducible show wpAny _ _ (eval (Expr.ListComp _ [⟨Expr.Tuple _ _ _, _, _, _⟩] _ _) _) _ _ _); k_dflt (refine lc_tuple (by intro _; with_unfolding_all rfl) (by with_unfolding_all rfl) (by rfl) (by decide) ?_))) | ((k_here; (with_reducible show wpAny _ _ (call (Value.builtin "len") [Value.ref _]) _ _ _); k_dflt (refine len_list (by is_list) (by (simp only [List.size_toArray]; omega)) ?_))) | ((k_here; (rename IntsAre _ (_ ++ _) => hmk); (have hml := marks_len hmk); k_dflt (refine LCt.CompSrcT.ledger (by rfl) (by k_asm) (by k_asm) (by k_mem) ?szQ2 ?_; (case szQ2 => (rw [List.size_toArray, sizeLine_eq]; omega)); intro g'; refine comp_any (Or.inr ⟨_, by k_mem, rfl, _, rfl⟩) (ints_at hmk) ?_ ?_); (focus (intro k9 t9 ys9 I9 oI9 C9 oC9 D9 m9 h9 tk9 E9 Qy9 Qe9 hC9 hx9 F9 N9 hy9 he9; (try dsimp only); (repeat' (first | ((with_reducible refine go ?_); (first | ((k_here; (with_reducible show wpAny _ _ (call (Value.type "zip") [Value.ref _, Value.ref _, Value.ref _]) _ _ _); k_dflt (refine' step_zip ?hhQ5 ?hcellQ5 ?hkindQ5 ?hkaQ5 ?hkbQ5 ?hkcQ5 ?habQ5 ?hacQ5 ?hbcQ5 ?FQ5 ?NQ5 ?UQ5 ?hqQ5 ?hclQ5 ?hcbQ5 ?hcdQ5 ?m1Q5 ?m2Q5 ?m3Q5 ?s1Q5 ?s2Q5 ?s3Q5 ?ixQ5 ?iyQ5 ?izQ5 ?d1Q5 ?d2Q5 ?d3Q5 ?_ ?_; (case hhQ5 => rfl); (case hcellQ5 => decide); (case hkindQ5 => rfl); (case hkaQ5 => rfl); (case hkbQ5 => rfl); (case hkcQ5 => rfl); (case habQ5 => decide); (case hacQ5 => decide); (case hbcQ5 => decide); (case FQ5 => k_asm); (case NQ5 => k_asm); (case hclQ5 => rfl); (case hcbQ5 => k_mem); (case hcdQ5 => assumption); (case UQ5 => k_updF); (case hqQ5 => k_mem); (case m1Q5 => k_mem); (case m2Q5 => k_mem); (case m3Q5 => k_mem); (case s1Q5 => rfl); (case s2Q5 => rfl); (case s3Q5 => rfl); (case ixQ5 => walk_at "my ints"); (case iyQ5 => walk_at "my ints"); (case izQ5 => walk_at "my ints"); (case d1Q5 => exact Dif.mk (by k_ne)); (case d2Q5 => exact Dif.mk (by k_ne)); (case d3Q5 => exact Dif.mk (by k_ne))); (focus (intro p9 tp9 nb9 C9 oC9 m9 h9 tk9 x9 y9 v9 tx9 ty9 tv9 E9 Qy9 hp9 hp99 g19 g29 g39 hC9 F9 N9 dd1 dd2 dd3 hq9; (try dsimp only); k_steps; (all_goals exact hq9 _ _ _ _ _ _ (by assumption) (news_sub (by assumption) (by lcg_sub)) (by assumption)))); intro c19 c29 c39 t19 t29 t39 D9 h9 tk9 tp9 nb9 a9 F9 N9; (try (simp only [AllNe, and_true] at a9; repeat (have hdf := And.left a9; replace a9 := And.right a9))); (try dsimp only at N9); (try dsimp only))) | ((k_here; (with_reducible show wpAny _ _ (eval (Expr.ListComp _ [⟨Expr.Tuple _ _ _, _, _, _⟩] _ _) _) _ _ _); k_dflt (refine lc_tuple (by intro _; with_unfolding_all rfl) (by with_unfolding_all rfl) (by rfl) (by decide) ?_))) | ((k_here; (with_reducible show wpAny _ _ (call (Value.builtin "len") [Value.ref _]) _ _ _); k_dflt (refine len_list (by is_list) (by (simp only [List.size_toArray]; omega)) ?_))) | ((k_here; (rename IntsAre _ (_ ++ _) => hmk); (have hml := marks_len hmk); k_dflt (refine LCt.CompSrcT.ledger (by rfl) (by k_asm) (by k_asm) (by k_mem) ?szQ2 ?_; (case szQ2 => (rw [List.size_toArray, sizeLine_eq]; omega)); intro g'; refine comp_any (Or.inr ⟨_, by k_mem, rfl, _, rfl⟩) (ints_at hmk) ?_ ?_); (focus (intro k9 t9 ys9 I9 oI9 C9 oC9 D9 m9 h9 tk9 E9 Qy9 Qe9 hC9 hx9 F9 N9 hy9 he9; (try dsimp only); k_steps; (any_goals (first | exact hy9 _ _ _ (by assumption) (by assumption) | exact he9 _ _ (by assumption) (by assumption))))); intro ys9 hlen9; (try rw [List.size_toArray] at hlen9))) | ((k_here; lct_look; k_dflt (refine LCt.ListComp_T (F₀ := by k_asm) (by with_unfolding_all rfl) (by decide) (by rfl) (by decide) (by rfl) ?_))) | ((k_here; (with_reducible show wpAny _ _ (call (Value.ref 96) [Value.ref _, Value.int _ _]) _ _ _); k_dflt (apply take_spec; walk_at "my six"; (focus k_updF); (focus k_mem); (focus l_ints); walk_at "my le"; (focus k_ne); (focus ktr_room); omega; omega; omega; omega); intro r9 t9 u9 h9 tk9 nb9 r0 r1 F9 N9 K9; (try dsimp only at N9); (try dsimp only); (try k_sweep); (try k_fold))))) | (k_unfold; (try dsimp only)) | (k_end; kc_close) | walk1 | (dsimp only; walk1) | (leave1; (try dsimp only)) | fail "no step")); (any_goals (first | exact hy9 _ _ _ (by assumption) (by assumption) | exact he9 _ _ (by assumption) (by assumption))))); intro ys9 hlen9; (try rw [List.size_toArray] at hlen9))) | ((k_here; lct_look; k_dflt (refine LCt.ListComp_T (F₀ := by k_asm) (by with_unfolding_all rfl) (by decide) (by rfl) (by decide) (by rfl) ?_))) | ((k_here; (with_reducible show wpAny _ _ (call (Value.ref 96) [Value.ref _, Value.int _ _]) _ _ _); k_dflt (apply take_spec; walk_at "my six"; (focus k_updF); (focus k_mem); (focus l_ints); walk_at "my le"; (focus k_ne); (focus ktr_room); omega; omega; omega; omega); intro r9 t9 u9 h9 tk9 nb9 r0 r1 F9 N9 K9; (try dsimp only at N9); (try dsimp only); (try k_sweep); (try k_fold))))) | (k_unfold; (try dsimp only)) | (k_end; kc_close) | walk1 | (dsimp only; walk1) | (leave1; (try dsimp only)) | fail "no step")
  all_goals (rename GSub (Shared.heap s) _ _ => kG)
  all_goals (rename IntsAre _ (_ ++ _) => hmk)
  all_goals (have hml := marks_len hmk)
  all_goals first
    | (refine' hnone _ _ _ _ _ _ _ _ _ hmk ?e1 ?e2 ?e3 ?e4 ?e5 ?e6 ?e7 ?e8 ?e9
       case e7 => assumption
       case e8 => exact news_sub (by assumption) (by lcg_sub)
       case e1 => (rw [← hmk.length]; omega)
       case e2 => omega
       case e3 => omega
       case e4 => exact fresh_of kG (by assumption) (by k_mem) (not_mem_of_ne (by walk_at "my fresh"))
       case e5 => exact fresh_of kG (by assumption) (by k_mem) (not_mem_of_ne (by walk_at "my fresh"))
       case e6 => exact Dif.mk (by k_ne)
       case e9 => exact kept_of kG (by assumption) N (by assumption) (by walk_at "my kept"))
    | (refine' hsome _ _ _ _ _ _ _ _ _ _ _ _ _ _ _ _ hmk ?e1 ?e2 ?e3 ?e4 ?e5 ?f5 ?e6 ?f6 ?f7 ?e7 ?e8 ?e9
       case e7 => assumption
       case e8 => exact news_sub (by assumption) (by lcg_sub)
       case e1 => (rw [← hmk.length]; omega)
       case e2 => omega
       case e3 => omega
       case e4 => exact fresh_of kG (by assumption) (by k_mem) (not_mem_of_ne (by walk_at "my fresh"))
       case e5 => exact fresh_of kG (by assumption) (by k_mem) (not_mem_of_ne (by walk_at "my fresh"))
       case f5 => exact fresh_of kG (by assumption) (by k_mem) (not_mem_of_ne (by walk_at "my fresh"))
       case e6 => exact Dif.mk (by k_ne)
       case f6 => exact Dif.mk (by k_ne)
       case f7 => exact Dif.mk (by k_ne)
       case e9 => exact kept_of kG (by assumption) N (by assumption) (by walk_at "my kept"))
    | skip

end
section
variable {prog : Program} {w : World} {p : Program} {loose : List Str} {mean : ExcName → Option Value} {mg mb : Str → Option Value}
  {dp un : Nat} {gd : Option (List Code)} {cn : Str} {cs : Scope} {a : Addr} {ccd : Value} {cl : List (Str × Addr)} {outer : List Env} {A₀ : Around} {base h₀ : Heap} {L : Addr} {m : Str → Option Value} {s : Shared} {Q E : Value → Shared → Prop}
section
variable {env : Env} {elt : Expr} {x : Str} {scope : Scope} {cl : List (Str × Addr)} {A : Around} {s₁ : Shared}
open LCg in
/-- a list of marks, one draw an item: its source is a range from 0 -/
theorem comp_sent {Fin : Shared → List Value → List (Addr × Obj) → Prop} {r bx q cb : Addr} {bnd pos : Int} {t1 t2 t3 t : Tok} {vq : List Value} {nb nl : Nat} {oc : Obj} {news : List (Addr × Obj)} {g : Obj → List (Addr × Obj)}
    (hh : A.handled = none) (F : Fr h₀ L s₁.heap m) (N : News h₀ L s₁.heap news) (hr : IsRange s₁.heap r 0 bnd 1 t1 t2 t3) (hb1 : 1 ≤ bnd) (hb2 : bnd ≤ 6)
    (hcl : cl.lookup (Str.ofString "box") = some cb) (hcb : (cb, oc) ∈ news) (hcd : oc.data = .cell (some (.ref bx))) (U : UpdF bx (listOf [.ref q, .int pos t].toArray nb) news g) (hq : (q, listOf vq.toArray nl) ∈ news) (d1 : Dif bx q) (d2 : Dif bx cb)
    (turn : ∀ (p : Int) (tp : Tok) (nb' : Nat) (C : Addr) (oC : Obj) (m₂ : Str → Option Value) (h : Heap) (tk : Nat) (E' : Value → Shared → Prop) (Qy : Value → Shared → Prop), pos ≤ p → p ≤ pos + 5 →
      NsObj oC m₂ → Fr h₀ L h m → News h₀ L h [(C, oC), (bx, listOf [.ref q, .int p tp].toArray nb'), (q, listOf vq.toArray nl), (cb, oc)] → Dif bx C → Dif q C → Dif cb C →
      (∀ (v : Int) (tv : Tok) (h' : Heap) (tk' : Nat) (tp' : Tok) (nb'' : Nat), 0 ≤ v → v ≤ 2 → Fr h₀ L h' m → News h₀ L h' [(bx, listOf [.ref q, .int (p + 1) tp'].toArray nb'')] → Kept [bx] h h' → Qy (.int v tv) { s₁ with heap := h', toks := tk' }) →
      wpAny (model prog w) A (eval elt (compEnvC scope cl C env)) Qy E' { s₁ with heap := h, toks := tk })
    (fin : ∀ (gg : Heap) (ys : List Value) (ns : List Int) (p : Int) (tp : Tok) (nb' : Nat), IntsAre ys ns → ns ≠ [] → ns.length ≤ 6 → (∀ v ∈ ns, 0 ≤ v ∧ v ≤ 2) → pos ≤ p → p ≤ pos + 6 → Fin { s₁ with heap := gg } ys (g (listOf [.ref q, .int p tp].toArray nb'))) :
    CompSrc prog w A h₀ L m env elt x scope cl Fin (.ref r) s₁ := by
  obtain ⟨pre, post, rfl, hg, ha, hb⟩ := U.split
  have inG : ∀ (o o' : Obj) (p : Addr × Obj), p ∈ g o → p.1 ≠ bx → p ∈ g o' := fun o o' p hp hne => by
    rw [hg] at hp ⊢
    rcases List.mem_append.mp hp with h | h
    · exact List.mem_append.mpr (.inl h)
    · rcases List.mem_cons.mp h with rfl | h
      · exact absurd rfl hne
      · exact List.mem_append.mpr (.inr (.tail _ h))
  have selfG : ∀ o, (bx, o) ∈ g o := fun o => by rw [hg]; exact List.mem_append.mpr (.inr (.head _))
  have onlyG : ∀ (o : Obj) (p : Addr × Obj), p ∈ g o → p.1 = bx → p = (bx, o) := fun o p hp e => by
    rw [hg] at hp
    rcases List.mem_append.mp hp with h | h
    · exact absurd e (ha p h)
    · rcases List.mem_cons.mp h with rfl | h
      · rfl
      · exact absurd e (hb p h)
  have toG : ∀ (o : Obj) (p : Addr × Obj), p ∈ pre ++ (bx, listOf [.ref q, .int pos t].toArray nb) :: post → p.1 ≠ bx → p ∈ g o := fun o p hp hne => by
    rw [hg]
    rcases List.mem_append.mp hp with h | h
    · exact List.mem_append.mpr (.inl h)
    · rcases List.mem_cons.mp h with rfl | h
      · exact absurd rfl hne
      · exact List.mem_append.mpr (.inr (.tail _ h))
  have e0 : pre ++ (bx, listOf [.ref q, .int pos t].toArray nb) :: post = g (listOf [.ref q, .int pos t].toArray nb) := (hg _).symm
  rw [e0] at N
  refine CompSrc.range (n := bnd.toNat) hh F N hr (small_one (by omega) (by omega) (by omega) (by omega)) (by rw [rangeSize_nat]; congr 1; omega) (by rw [sizeLine_eq]; omega) fun gg => ?_
  have all : ∀ (k i : Nat) (ys : List Value) (ns : List Int) (tp : Tok) (nb' : Nat), IntsAre ys ns → ns.length = i → (∀ v ∈ ns, 0 ≤ v ∧ v ≤ 2) → i + k = bnd.toNat →
      CompRest prog w A h₀ L m env elt x scope cl { s₁ with heap := gg } (fun _ => True) (fun i v => ∃ t, v = .int (0 + (i : Int)) t) (Fin { s₁ with heap := gg }) k i ys (g (listOf [.ref q, .int (pos + (i : Int)) tp].toArray nb')) := by
    intro k
    induction k with
    | zero =>
      intro i ys ns tp nb' hI hl hv e
      refine CompRest.zero (fin gg ys ns _ tp nb' hI (fun e' => ?_) (by omega) hv (by omega) (by omega))
      subst e'
      simp at hl
      omega
    | succ k ih =>
      intro i ys ns tp nb' hI hl hv e
      refine CompRest.succ fun v I oI C oC D m₂ h tk E' _ hC hx F' N' off ne => ?_
      have N2 : News h₀ L h (g (listOf [.ref q, .int (pos + (i : Int)) tp].toArray nb')) := fun p hp => N' p (.tail _ (.tail _ (.tail _ hp)))
      have offm := off.mem
      have hqm := toG (listOf [.ref q, .int (pos + (i : Int)) tp].toArray nb') _ hq (fun z => d1 z.symm)
      have hcm := toG (listOf [.ref q, .int (pos + (i : Int)) tp].toArray nb') _ hcb (fun z => d2 z.symm)
      have hbm := selfG (listOf [.ref q, .int (pos + (i : Int)) tp].toArray nb')
      refine turn (pos + (i : Int)) tp nb' C oC m₂ h tk E' _ (by omega) (by omega) hC F' (fun p hp => ?_) (offm _ hbm).2.1 (offm _ hqm).2.1 (offm _ hcm).2.1 fun v tv h' tk' tp' nb'' v0 v2 F'' N'' K => ?_
      · rcases List.mem_cons.mp hp with rfl | hp
        · exact N' _ (.tail _ (.head _))
        · rcases List.mem_cons.mp hp with rfl | hp
          · exact N2 _ hbm
          · rcases List.mem_cons.mp hp with rfl | hp
            · exact N2 _ hqm
            · rcases List.mem_cons.mp hp with rfl | hp
              · exact N2 _ hcm
              · cases hp
      · have e1 : pos + (i : Int) + 1 = pos + ((i + 1 : Nat) : Int) := by omega
        rw [e1] at N''
        have hb' := offm _ hbm
        refine ⟨h', tk', g (listOf [.ref q, .int (pos + ((i + 1 : Nat) : Int)) tp'].toArray nb''), rfl, F'', fun p hp => ?_, Off3.of fun p hp => ?_, trivial, ih (i + 1) (ys ++ [.int v tv]) (ns ++ [v]) tp' nb'' (IntsAre.append hI (.cons _ _ .nil)) (by simp [hl]) (fun u hu => ?_) (by omega)⟩
        · have kp : ∀ p' : Addr × Obj, p' ∈ (I, oI) :: (C, oC) :: (D, lst ys) :: g (listOf [.ref q, .int (pos + (i : Int)) tp].toArray nb') → p'.1 ≠ bx → h'.get? p'.1 = some p'.2 ∧ p'.1 ≠ L ∧ h₀.get? p'.1 = none := fun p' hp' hne => ⟨K _ _ (N' p' hp').1 (by simpa using hne), (N' p' hp').2⟩
          rcases List.mem_cons.mp hp with rfl | hp
          · exact kp _ (.head _) (fun z => hb'.1 z.symm)
          · rcases List.mem_cons.mp hp with rfl | hp
            · exact kp _ (.tail _ (.head _)) (fun z => hb'.2.1 z.symm)
            · rcases List.mem_cons.mp hp with rfl | hp
              · exact kp _ (.tail _ (.tail _ (.head _))) (fun z => hb'.2.2 z.symm)
              · by_cases hne : p.1 = bx
                · rw [onlyG _ p hp hne]; exact N'' _ (.head _)
                · exact kp p (.tail _ (.tail _ (.tail _ (inG _ _ p hp hne)))) hne
        · by_cases hne : p.1 = bx
          · rw [hne]; exact hb'
          · exact offm p (inG _ _ p hp hne)
        · rcases List.mem_append.mp hu with hu | hu
          · exact hv u hu
          · rw [List.mem_singleton.mp hu]; exact ⟨v0, v2⟩
  have z := all bnd.toNat 0 [] [] t nb .nil rfl (fun v hv => nomatch hv) (Nat.zero_add _)
  have e1 : pos + ((0 : Nat) : Int) = pos := by omega
  rw [e1] at z
  exact z
end

end
section
variable {prog : Program} {w : World} {p : Program} {loose : List Str} {mean : ExcName → Option Value} {mg mb : Str → Option Value}
  {dp un : Nat} {gd : Option (List Code)} {cn : Str} {cs : Scope} {a : Addr} {ccd : Value} {cl : List (Str × Addr)} {outer : List Env} {A₀ : Around} {base h₀ : Heap} {L : Addr} {m : Str → Option Value} {s : Shared} {Q E : Value → Shared → Prop}
theorem ack_some_spec {x dx ds dc t kc lm : Addr} {trials td : Int} {st sp : Str} {v2 v3 : Tok} {u : ETok} {oS oC : Obj} {kvs ckvs : List (Str × Value)} {z o zb ob cb zc oc cc : Int} {u1 u2 u3 u4 u5 us : Tok} {vs : List Value} {ns : List Int} {nl : Nat} {news : List (Addr × Obj)} {g1 : Obj → List (Addr × Obj)} {g2 : Obj → Obj → List (Addr × Obj)}
    (B : Below A₀ base outer h₀) (F : Fr h₀ L s.heap m) (X : (hd.heap_39 w.params).In h₀) (N : News h₀ L s.heap news) (T : Top p loose mean mg mb h₀) (hk : cs.kind = .function)
    (hx : (x, instObj 85 dx) ∈ news) (U1 : UpdF dx (ecn w.params trials st v2 td v3 ds dc u) news g1) (U2 : ∀ o', UpdF dc oC (g1 o') (g2 o')) (hds : (ds, oS) ∈ news)
    (hoS : oS.IsDictOf (PySem.strKind prog w) kvs) (hoC : oC.IsDictOf (PySem.strKind prog w) ckvs) (lo : (ds == sysModules) = false) (lo2 : (dc == sysModules) = false)
    (hv : valueAt kvs sp = some (.ref t)) (ht : (t, tup2 z o u1 u2) ∈ news) (hC : CntAt news ckvs sp zb ob cb) (hkc : (kc, tup3 zc oc cc u3 u4 u5) ∈ news) (hlm : (lm, listOf vs.toArray nl) ∈ news) (hz : ckvs.length ≤ 2)
    (hst : (st == Str.ofString "failed") = false) (hI : IntsAre vs ns) (d1 : Dif dx ds) (d2 : Dif dx dc) (d3 : Dif dc ds) (hdp : dp + 4 < recursionLimit)
    (hbad : ∀ (v2' tr : Tok) (h' : Heap) (tk' : Nat), ¬ (zb ≤ zc ∧ ob ≤ oc ∧ cb ≤ cc ∧ (ns.count 2 : Int) ≤ zc - zb + (cc - cb) ∧ (ns.count 1 : Int) ≤ oc - ob + (cc - cb) ∧ (ns.count 2 : Int) + (ns.count 1 : Int) ≤ zc - zb + (oc - ob) + (cc - cb) ∧ zc ≤ z ∧ oc ≤ o ∧ zc + oc + cc ≤ z + o) →
      Fr h₀ L h' m → News h₀ L h' (g1 (ecn w.params trials (Str.ofString "failed") v2' td v3 ds dc u)) → Q (.int 0 tr) { s with heap := h', toks := tk' })
    (hok : ∀ (st' : Str) (oC' : Obj) (v2' tr : Tok) (h' : Heap) (tk' : Nat), zb ≤ zc → ob ≤ oc → cb ≤ cc → (ns.count 2 : Int) ≤ zc - zb + (cc - cb) → (ns.count 1 : Int) ≤ oc - ob + (cc - cb) → (ns.count 2 : Int) + (ns.count 1 : Int) ≤ zc - zb + (oc - ob) + (cc - cb) → zc ≤ z → oc ≤ o → zc + oc + cc ≤ z + o →
      st' = ackSt st ((ns.count 2 : Int) + (ns.count 1 : Int)) → oC'.IsDictOf (PySem.strKind prog w) (stored ckvs sp (.ref kc)) → Fr h₀ L h' m → News h₀ L h' (g2 (ecn w.params trials st' v2' td v3 ds dc u) oC') → Q (.int (cc - cb) tr) { s with heap := h', toks := tk' }) :
    wpAny (model prog w) (ktrTop dp un gd cn cs L a ccd cl outer) (call (.ref 82) [.ref x, .str sp us, .ref kc, .ref lm, .bool true]) Q E s := by
  have hdx := (updF_rest U1).1
  have hdc := second_in U1 U2 (fun e => d2 e.symm)
  obtain ⟨es, ep, ed⟩ := dict_data hoC
  have x1 : Dif dx x := dif_of N hdx hx (fun e => by cases e)
  have x2 : Dif dx t := dif_of N hdx ht (fun e => by cases e)
  have x3 : Dif dx kc := dif_of N hdx hkc (fun e => by cases e)
  have x4 : Dif dx lm := dif_of N hdx hlm (fun e => by cases e)
  have c1 : Dif dc x := dif_of N hdc hx (fun e => by rw [ed] at e; cases e)
  have c2 : Dif dc t := dif_of N hdc ht (fun e => by rw [ed] at e; cases e)
  have c3 : Dif dc kc := dif_of N hdc hkc (fun e => by rw [ed] at e; cases e)
  have c4 : Dif dc lm := dif_of N hdc hlm (fun e => by rw [ed] at e; cases e)
  rcases hC with ⟨hvc, rfl, rfl, rfl⟩ | ⟨kb, w1, w2, w3, hvc, hkb⟩
  · refine ack_some_new (zb := 0) (ob := 0) (cb := 0) (u6 := 0) (u7 := 0) (u8 := 0) B F X (news_sub N (List.forall_mem_cons.mpr ⟨hx, List.forall_mem_cons.mpr ⟨hdx, List.forall_mem_cons.mpr ⟨hds, List.forall_mem_cons.mpr ⟨hdc, List.forall_mem_cons.mpr ⟨ht, List.forall_mem_cons.mpr ⟨hkc, List.forall_mem_cons.mpr ⟨hlm, List.forall_mem_nil _⟩⟩⟩⟩⟩⟩⟩)) T hk hoS hoC lo lo2 hv hvc hz hst hI
      ⟨⟨x1, d1, d2, x2, x3, x4, trivial⟩, ⟨c1, d3, c2, c3, c4, trivial⟩⟩ hdp (fun v2' tr h' tk' hf F' N' K => hbad v2' tr h' tk' hf F' (one_turned N U1 N' (.head _) K))
      (fun st' oC' v2' tr h' tk' f1 f2 f3 f4 f5 f6 f7 f8 f9 hs hd F' N' K => hok st' oC' v2' tr h' tk' f1 f2 f3 f4 f5 f6 f7 f8 f9 hs hd F' (two_turned N U1 U2 N' (.head _) (.tail _ (.head _)) K))
  · have x5 : Dif dx kb := dif_of N hdx hkb (fun e => by cases e)
    have c5 : Dif dc kb := dif_of N hdc hkb (fun e => by rw [ed] at e; cases e)
    refine ack_some_old B F X (news_sub N (List.forall_mem_cons.mpr ⟨hx, List.forall_mem_cons.mpr ⟨hdx, List.forall_mem_cons.mpr ⟨hds, List.forall_mem_cons.mpr ⟨hdc, List.forall_mem_cons.mpr ⟨ht, List.forall_mem_cons.mpr ⟨hkc, List.forall_mem_cons.mpr ⟨hlm, List.forall_mem_cons.mpr ⟨hkb, List.forall_mem_nil _⟩⟩⟩⟩⟩⟩⟩⟩)) T hk hoS hoC lo lo2 hv hvc hz hst hI
      ⟨⟨x1, d1, d2, x2, x3, x4, x5, trivial⟩, ⟨c1, d3, c2, c3, c4, c5, trivial⟩⟩ hdp (fun v2' tr h' tk' hf F' N' K => hbad v2' tr h' tk' hf F' (one_turned N U1 N' (.head _) K))
      (fun st' oC' v2' tr h' tk' f1 f2 f3 f4 f5 f6 f7 f8 f9 hs hd F' N' K => hok st' oC' v2' tr h' tk' f1 f2 f3 f4 f5 f6 f7 f8 f9 hs hd F' (two_turned N U1 U2 N' (.head _) (.tail _ (.head _)) K))
theorem ack_none_spec {x dx ds dc t lm : Addr} {trials td : Int} {st sp : Str} {v2 v3 : Tok} {u : ETok} {oS oC : Obj} {kvs ckvs : List (Str × Value)} {z o : Int} {u1 u2 us : Tok} {vs : List Value} {ns : List Int} {nl : Nat} {news : List (Addr × Obj)} {g1 : Obj → List (Addr × Obj)}
    (B : Below A₀ base outer h₀) (F : Fr h₀ L s.heap m) (X : (hd.heap_39 w.params).In h₀) (N : News h₀ L s.heap news) (T : Top p loose mean mg mb h₀) (hk : cs.kind = .function)
    (hx : (x, instObj 85 dx) ∈ news) (U1 : UpdF dx (ecn w.params trials st v2 td v3 ds dc u) news g1) (hdc : (dc, oC) ∈ news) (hds : (ds, oS) ∈ news)
    (hoS : oS.IsDictOf (PySem.strKind prog w) kvs) (hoC : oC.IsDictOf (PySem.strKind prog w) ckvs) (lo : (ds == sysModules) = false) (lo2 : (dc == sysModules) = false)
    (hv : valueAt kvs sp = some (.ref t)) (ht : (t, tup2 z o u1 u2) ∈ news) (hlm : (lm, listOf vs.toArray nl) ∈ news) (hz : ckvs.length ≤ 2)
    (hst : (st == Str.ofString "failed") = false) (hI : IntsAre vs ns) (d1 : Dif dx ds) (d2 : Dif dx dc) (d3 : Dif dc ds) (hdp : dp + 4 < recursionLimit)
    (hbad : ∀ (v2' tr : Tok) (h' : Heap) (tk' : Nat), ¬ ((ns.count 2 : Int) + (ns.count 1 : Int) = 0) → Fr h₀ L h' m → News h₀ L h' (g1 (ecn w.params trials (Str.ofString "failed") v2' td v3 ds dc u)) → Q (.int 0 tr) { s with heap := h', toks := tk' })
    (hok : ∀ (tr : Tok) (h' : Heap) (tk' : Nat), (ns.count 2 : Int) + (ns.count 1 : Int) = 0 → Fr h₀ L h' m → News h₀ L h' news → Q (.int 0 tr) { s with heap := h', toks := tk' }) :
    wpAny (model prog w) (ktrTop dp un gd cn cs L a ccd cl outer) (call (.ref 82) [.ref x, .str sp us, .none, .ref lm, .bool true]) Q E s := by
  have hdx := (updF_rest U1).1
  obtain ⟨es, ep, ed⟩ := dict_data hoC
  have x1 : Dif dx x := dif_of N hdx hx (fun e => by cases e)
  have x2 : Dif dx t := dif_of N hdx ht (fun e => by cases e)
  have x4 : Dif dx lm := dif_of N hdx hlm (fun e => by cases e)
  have c1 : Dif dc x := dif_of N hdc hx (fun e => by rw [ed] at e; cases e)
  have c2 : Dif dc t := dif_of N hdc ht (fun e => by rw [ed] at e; cases e)
  have c4 : Dif dc lm := dif_of N hdc hlm (fun e => by rw [ed] at e; cases e)
  have NN : News h₀ L s.heap [(x, instObj 85 dx), (dx, ecn w.params trials st v2 td v3 ds dc u), (ds, oS), (dc, oC), (t, tup2 z o u1 u2), (lm, listOf vs.toArray nl)] :=
    news_sub N (List.forall_mem_cons.mpr ⟨hx, List.forall_mem_cons.mpr ⟨hdx, List.forall_mem_cons.mpr ⟨hds, List.forall_mem_cons.mpr ⟨hdc, List.forall_mem_cons.mpr ⟨ht, List.forall_mem_cons.mpr ⟨hlm, List.forall_mem_nil _⟩⟩⟩⟩⟩⟩)
  cases hvc : valueAt ckvs sp with
  | none =>
    exact ack_none_new (zb := 0) (ob := 0) (cb := 0) (zc := 0) (oc := 0) (cc := 0) (u3 := 0) (u4 := 0) (u5 := 0) (u6 := 0) (u7 := 0) (u8 := 0) B F X NN T hk hoS hoC lo lo2 hv hvc hz hst hI ⟨⟨x1, d1, d2, x2, x4, trivial⟩, ⟨c1, d3, c2, c4, trivial⟩⟩ hdp (fun v2' tr h' tk' hf F' N' K => hbad v2' tr h' tk' hf F' (one_turned N U1 N' (.head _) K))
      (fun tr h' tk' hf F' K => hok tr h' tk' hf F' (news_keep N K))
  | some vb =>
    exact ack_none_old (zb := 0) (ob := 0) (cb := 0) (zc := 0) (oc := 0) (cc := 0) (u3 := 0) (u4 := 0) (u5 := 0) (u6 := 0) (u7 := 0) (u8 := 0) B F X NN T hk hoS hoC lo lo2 hv hvc hz hst hI ⟨⟨x1, d1, d2, x2, x4, trivial⟩, ⟨c1, d3, c2, c4, trivial⟩⟩ hdp (fun v2' tr h' tk' hf F' N' K => hbad v2' tr h' tk' hf F' (one_turned N U1 N' (.head _) K))
      (fun tr h' tk' hf F' K => hok tr h' tk' hf F' (news_keep N K))

end
section
variable {prog : Program} {w : World} {p : Program} {loose : List Str} {mean : ExcName → Option Value} {mg mb : Str → Option Value}
  {dp un : Nat} {gd : Option (List Code)} {cn : Str} {cs : Scope} {a : Addr} {ccd : Value} {cl : List (Str × Addr)} {outer : List Env} {A₀ : Around} {base h₀ : Heap} {L : Addr} {m : Str → Option Value} {s : Shared} {Q E : Value → Shared → Prop}
section
variable {A : Around} {env : Env} {ct elt iter : Expr} {elts : List Expr} {kk : Nat} {tp : Pos} {scope : Scope} {cl : List (Str × Addr)} {pos : Pos} {z : Addr} {fp wr : List Addr} {n : Nat} {Pt : Nat → Array Value → Prop} {St : Nat → Heap → Prop} {Mid : Nat → Addr → Heap → Prop}
open LCg in
/-- a comprehension with a test over an iterator that hands tuples out: where the test is false at every turn its list is empty -/
theorem zblockF {Q : Value → Shared → Prop} {Good : Nat → (Str → Option Value) → Prop} (hh : A.handled = none)
    (W : WalksT prog w A z fp wr n Pt St Mid) (hcell : ∀ y ∈ scope.names, y.2 ≠ .cell) (hkind : scope.kind = .function)
    (hst : St 0 s.heap) (hfp : ∀ b ∈ fp, b < s.heap.objs.size) (hwr : ∀ b ∈ wr, h₀.get? b = none ∧ b ≠ L) (F : Fr h₀ L s.heap m)
    (hassign : ∀ (C : Addr) (s' : Shared) (T : Addr) (i : Nat) (vals : Array Value) (m' : Str → Option Value) (Q' : Unit → Shared → Prop) (E' : Value → Shared → Prop), s'.heap.IsTuple T vals → Pt i vals → s'.heap.Ns C m' →
      (∀ h' tk m'', Good i m'' → h'.Ns C m'' → (∀ c o, c ≠ C → s'.heap.get? c = some o → h'.get? c = some o) → Q' () { s' with heap := h', toks := tk }) → wpAny (model prog w) A (assign (.Tuple elts kk tp) (compEnvC scope cl C env) (.ref T)) Q' E' s')
    (turn : ∀ (i : Nat) (C : Addr) (oC : Obj) (m₂ : Str → Option Value) (h : Heap) (tk : Nat) (E' : Value → Shared → Prop) (Qt Qe : Shared → Prop), i < n → Good i m₂ → NsObj oC m₂ → Fr h₀ L h m → News h₀ L h [(C, oC)] →
      (∀ h' tk', Fr h₀ L h' m → Kept [] h h' → Qe { s with heap := h', toks := tk' }) → wpAny (model prog w) A (isTrue ct (compEnvC scope cl C env) (eval ct (compEnvC scope cl C env))) (fun ok s' => if ok = true then Qt s' else Qe s') E' { s with heap := h, toks := tk })
    (fin : ∀ (D : Addr) (h : Heap) (tk : Nat), Fr h₀ L h m → News h₀ L h [(D, lst [])] → s.heap.get? D = none → Kept wr s.heap h → Q (.ref D) { s with heap := h, toks := tk }) :
    wpAny (model prog w) A (newList []) (fun acc s₃ => wpAny (model prog w) A (newFunctionEnv scope env.globals cl [] env.qual none .none (some env)) (fun cenv s₄ =>
      codeAny (model prog w) A (.compStart (.ListComp elt [⟨.Tuple elts kk tp, iter, [ct], 0⟩] scope pos) 0 (.ref z) acc { cenv with scope := relabel scope env }) (compPost (model prog w) A E none Q acc cenv.locals) s₄) E s₃) E s := by
  refine wpAny_newObj_type (wpAny_newFunctionEnv hcell (by intro y hy; simp at hy) (fun h₁ hns₁ hsb₁ => ?_) hkind)
  dsimp only at hns₁ hsb₁ ⊢
  generalize hH2 : s.heap.push { cls := .type "list", dict := none, data := .seq ([] : List Value).toArray } = H2 at hns₁ hsb₁ ⊢
  have hC : H2.objs.size = s.heap.objs.size + 1 := by rw [← hH2, Heap.size_push]
  have hDC : s.heap.objs.size ≠ H2.objs.size := by rw [hC]; exact Nat.ne_of_lt (Nat.lt_succ_self _)
  have below : ∀ b, b < s.heap.objs.size → b ≠ H2.objs.size ∧ b ≠ s.heap.objs.size := fun b hb => ⟨by rw [hC]; exact Nat.ne_of_lt (Nat.lt_succ_of_lt hb), Nat.ne_of_lt hb⟩
  have old : ∀ b o, s.heap.get? b = some o → h₁.get? b = some o := fun b o e => hsb₁.extBut b o (below b (Heap.lt_size e)).1 (Heap.get?_push_of_some _ (hH2 ▸ Heap.get?_push_of_some _ e))
  have hacc : h₁.get? s.heap.objs.size = some (lst []) := hsb₁.extBut _ _ hDC (Heap.get?_push_of_some _ (hH2 ▸ Heap.get?_push_size _ rfl))
  have fresh : ∀ a, s.heap.objs.size ≤ a → s.heap.get? a = none := fun a ha => by
    cases e : s.heap.get? a with
    | none => rfl
    | some o' => exact absurd (Heap.lt_size e) (Nat.not_lt.mpr ha)
  have fresh₀ : ∀ a, s.heap.objs.size ≤ a → h₀.get? a = none := fun a ha => by
    cases e : h₀.get? a with
    | none => rfl
    | some o' => have q := F.keep a o' e; rw [fresh a ha] at q; cases q
  have hCge : s.heap.objs.size ≤ H2.objs.size := by rw [hC]; exact Nat.le_succ _
  have hD₀ : h₀.get? s.heap.objs.size = none := fresh₀ _ (Nat.le_refl _)
  have hC₀ : h₀.get? H2.objs.size = none := fresh₀ _ hCge
  have hLlt : L < s.heap.objs.size := F.ns.lt
  have hDL : s.heap.objs.size ≠ L := Ne.symm (below L hLlt).2
  have hCL : H2.objs.size ≠ L := Ne.symm (below L hLlt).1
  have offw : ∀ b ∈ wr, b ≠ H2.objs.size ∧ b ≠ s.heap.objs.size := fun b hb => below b (hfp b (W.sub b hb))
  have Dw : s.heap.objs.size ∉ wr := fun hb => (offw _ hb).2 rfl
  have Cw : H2.objs.size ∉ wr := fun hb => (offw _ hb).1 rfl
  have frw : ∀ {g g' : Heap}, Fr h₀ L g m → (∀ b o, b ∉ wr → g.get? b = some o → g'.get? b = some o) → Fr h₀ L g' m := fun {g g'} Fg k =>
    ⟨Fg.ns.at' fun o e => k L o (fun hb => (hwr L hb).2 rfl) e, fun b o e => k b o (fun hb => by rw [(hwr b hb).1] at e; cases e) (Fg.keep b o e), Fg.above⟩
  have frC : ∀ {g g' : Heap}, Fr h₀ L g m → (∀ c o, c ≠ H2.objs.size → g.get? c = some o → g'.get? c = some o) → Fr h₀ L g' m := fun {g g'} Fg k =>
    ⟨Fg.ns.at' fun o e => k L o (Ne.symm hCL) e, fun b o e => k b o (fun hb => by rw [hb, hC₀] at e; cases e) (Fg.keep b o e), Fg.above⟩
  have loop : ∀ s₃ : Shared, s₃ = { s with heap := h₁, toks := s.toks + ([] : List (Str × Value)).length } →
      codeAny (model prog w) A (.compLoop (.ListComp elt [⟨.Tuple elts kk tp, iter, [ct], 0⟩] scope pos) 0 (.ref z) (.ref s.heap.objs.size) (compEnvC scope cl H2.objs.size env))
        (compPost (model prog w) A E none Q (.ref s.heap.objs.size) H2.objs.size) s₃ := by
    rintro s₃ rfl
    refine kct_loop
      (fun k s' => ∃ h' tk i m', s' = { s with heap := h', toks := tk } ∧ i ≤ n ∧ k = n + 1 - i ∧ St i h' ∧ Fr h₀ L h' m ∧ h'.Ns H2.objs.size m' ∧ h'.get? s.heap.objs.size = some (lst []) ∧ Kept wr s.heap h') ?_ (n + 1)
      ⟨h₁, _, 0, _, rfl, Nat.zero_le _, rfl, W.frame _ _ _ hst fun b _ o e => old b o e, F.keeps old, hns₁, hacc, fun y o e _ => old y o e⟩
    rintro k s' ⟨h', tk, i, m', rfl, hi, rfl, hst', F', hn', hD', K'⟩
    by_cases hlt : i < n
    · refine W.item i _ _ _ hlt hst' fun T vals g tk₂ hP hT hIT hMid hk₂ => ?_
      have hTw : T ∉ wr := W.apart i T g hMid
      refine W.go _ _ _ i T _ _ _ hMid fun g₂ hst₂ hk₃ => ?_
      have kw : ∀ b o, b ∉ wr → h'.get? b = some o → g₂.get? b = some o := fun b o hb e => hk₃ b o hb (hk₂ b o hb e)
      have hIT₂ : g₂.IsTuple T vals := by obtain ⟨o, e, r⟩ := hIT; exact ⟨o, hk₃ T o hTw e, r⟩
      refine hassign H2.objs.size { s with heap := g₂, toks := tk₂ } T i vals m' _ _ hIT₂ hP (hn'.at' fun o e => kw _ o Cw e) fun g₃ tk₃ m'' hG hn₃ hk₄ => ?_
      obtain ⟨oC, heC, hoC⟩ := ns_obj hn₃
      have k3 : ∀ b o, b ∉ wr → b ≠ H2.objs.size → h'.get? b = some o → g₃.get? b = some o := fun b o hb hc e => hk₄ b o hc (kw b o hb e)
      have F₃ : Fr h₀ L g₃ m := frC (frw F' kw) hk₄
      have hD₃ : g₃.get? s.heap.objs.size = some (lst []) := k3 _ _ Dw hDC hD'
      have hst₃ : St (i + 1) g₃ := W.frame _ _ _ hst₂ fun b hb o e => hk₄ b o (below b (hfp b hb)).1 e
      refine turn i H2.objs.size oC m'' g₃ tk₃ _ _ _ hlt hG hoC F₃ (fun p hp => by rw [List.mem_singleton.mp hp]; exact ⟨heC, hCL, hC₀⟩) fun g₄ tk₄ F₄ K₄ => ?_
      have up : ∀ y o, g₃.get? y = some o → g₄.get? y = some o := fun y o e => K₄ y o e (by simp)
      refine ⟨n + 1 - (i + 1), by omega, g₄, tk₄, i + 1, m'', rfl, hlt, rfl, W.frame _ _ _ hst₃ fun b _ o e => up b o e, F₄, hn₃.at' fun o e => up _ o e, up _ _ hD₃, fun y o e hy => up _ _ (k3 _ _ hy (below y (Heap.lt_size e)).1 (K' y o e hy))⟩
    · obtain rfl : i = n := Nat.le_antisymm hi (Nat.not_lt.mp hlt)
      refine W.done _ _ _ hst' fun g tk₂ hk₂ => ?_
      refine ⟨m', hn'.at' fun o e => hk₂ _ o Cw e, fun g' hs' => ?_⟩
      refine fin s.heap.objs.size g' tk₂ ((frw F' hk₂).change hs' hCL hC₀) (fun p hp => ?_) (fresh _ (Nat.le_refl _)) fun y o e hy => ?_
      · rw [List.mem_singleton.mp hp]
        exact ⟨hs'.extBut _ _ hDC (hk₂ _ _ Dw hD'), hDL, hD₀⟩
      · exact hs'.extBut _ _ (below y (Heap.lt_size e)).1 (hk₂ _ _ hy (K' y o e hy))
  exact codeAny_compStart_list (loop _ rfl) (W.self 0 _ _ _ (W.frame _ _ _ hst fun b _ o e => old b o e) (loop _ rfl))
end

end
section
variable {prog : Program} {w : World} {p : Program} {loose : List Str} {mean : ExcName → Option Value} {mg mb : Str → Option Value}
  {dp un : Nat} {gd : Option (List Code)} {cn : Str} {cs : Scope} {a : Addr} {ccd : Value} {cl : List (Str × Addr)} {outer : List Env} {A₀ : Around} {base h₀ : Heap} {L : Addr} {m : Str → Option Value} {s : Shared} {Q E : Value → Shared → Prop}
section
variable {A : Around}
def zSt2 (z TI TO : Addr) (q1 q2 : Src) (i : Nat) (h : Heap) : Prop := IsZip h z TI TO .none ∧ IsT h TI [.ref q1.i, .ref q2.i] ∧ (∃ a b, IsT h TO [a, b]) ∧ q1.At i h ∧ q2.At i h
def zMid2 (z TI TO : Addr) (q1 q2 : Src) (i : Nat) (T : Addr) (h : Heap) : Prop := IsZip h z TI TO (rawInt T) ∧ IsT h TI [.ref q1.i, .ref q2.i] ∧ (∃ a b, IsT h TO [a, b]) ∧ q1.At (i + 1) h ∧ q2.At (i + 1) h ∧ T ∉ [z, TO, q1.i, q2.i]
theorem zwalk2 {z TI TO : Addr} {q1 q2 : Src} {n : Nat} (hh : A.handled = none) (D : ZApart z TI TO [q1, q2]) (s1 : q1.xs.size = n) (s2 : q2.xs.size = n) :
    WalksT prog w A z [z, TI, TO, q1.i, q2.i, q1.l, q2.l] [z, TO, q1.i, q2.i] n
      (fun i vals => ∃ x y, q1.xs[i]? = some x ∧ q2.xs[i]? = some y ∧ vals = #[x, y]) (zSt2 z TI TO q1 q2) (zMid2 z TI TO q1 q2) where
  sub := fun c hc => by simp at hc ⊢; rcases hc with rfl | rfl | rfl | rfl <;> simp
  frame := fun i h h' hst hk => by
    obtain ⟨a1, a2, ⟨a, b, a3⟩, a4, a5⟩ := hst
    exact ⟨hk z (by simp) _ a1, hk TI (by simp) _ a2, ⟨a, b, hk TO (by simp) _ a3⟩, a4.ext (hk q1.i (by simp)) (hk q1.l (by simp)), a5.ext (hk q2.i (by simp)) (hk q2.l (by simp))⟩
  item := fun i s Q E hi hst hQ => by
    obtain ⟨a1, a2, ⟨a, b, a3⟩, a4, a5⟩ := hst
    have e1 : q1.xs[i]? = some (q1.xs[i]'(by omega)) := Array.getElem?_eq_getElem _
    have e2 : q2.xs[i]? = some (q2.xs[i]'(by omega)) := Array.getElem?_eq_getElem _
    refine next_zip2 D a1 a2 a3 a4 a5 e1 e2 fun h' b1 b2 b3 b4 b6 b7 K => ?_
    have lt : ∀ {c : Addr}, (∃ o, s.heap.get? c = some o) → s.heap.objs.size ≠ c := fun ⟨o, e⟩ => Nat.ne_of_gt (Heap.lt_size e)
    refine hQ s.heap.objs.size _ h' s.toks ⟨_, _, e1, e2, rfl⟩ (Nat.le_refl _) ⟨_, b6, rfl, _, rfl⟩ ⟨b1, K _ _ a2 ?_, ⟨_, _, b2⟩, b3, b4, ?_⟩ fun c o hc e => K c o e hc
    · have d1 := (D.src q1 (by simp)).2.1
      have d2 := (D.src q2 (by simp)).2.1
      simp only [List.mem_cons, List.not_mem_nil, or_false, not_or]
      exact ⟨D.TIz, D.TITO, d1.symm, d2.symm⟩
    · simp only [List.mem_cons, List.not_mem_nil, or_false, not_or]
      exact ⟨lt ⟨_, a1⟩, lt ⟨_, a3⟩, lt a4.iter, lt a5.iter⟩
  go := fun elts k pos i T s Q E hm hQ => by
    obtain ⟨a1, a2, ⟨a, b, a3⟩, a4, a5, _⟩ := hm
    refine wpAny_letOwnedTupleGo_zip a1 fun h' hz' hs' => hQ h' ⟨hz', hs'.extBut _ _ D.TIz a2, ⟨a, b, hs'.extBut _ _ D.TOz a3⟩, ?_, ?_⟩ fun c o hc e => hs'.extBut _ _ (fun x => hc (by simp [x])) e
    · exact a4.but hs'.extBut (D.src q1 (by simp)).1 (D.src q1 (by simp)).2.2.2.1
    · exact a5.but hs'.extBut (D.src q2 (by simp)).1 (D.src q2 (by simp)).2.2.2.1
  apart := fun i T h hm => hm.2.2.2.2.2
  done := fun s Q E hst hQ => by
    obtain ⟨a1, a2, _, a4, _⟩ := hst
    refine next_zip_end hh (D.src q1 (by simp)).1 (D.src q1 (by simp)).2.2.2.1 a1 a2 a4 (Array.getElem?_eq_none (by omega)) fun h' K => hQ h' s.toks fun c o hc e => K c o e ?_
    simp only [List.mem_cons, List.not_mem_nil, or_false, not_or] at hc ⊢
    exact ⟨hc.1, hc.2.2.1⟩
  self := fun i s Q E hst hQ => wpAny_pyIter_zip hst.1 hQ

open LCg in
/-- [elt for a, b in zip(tuple, tuple) if ct]: empty where the test is false throughout -/
theorem zcomp2 {env : Env} {ct elt iter : Expr} {a b : Str} {pa pb tp pos : Pos} {kk : Nat} {scope : Scope} {cl : List (Str × Addr)} {l1 l2 : Addr} {xs ys : List Value} {news : List (Addr × Obj)}
    {Q : Value → Shared → Prop} (hh : A.handled = none) (hcell : ∀ y ∈ scope.names, y.2 ≠ .cell) (hkind : scope.kind = .function)
    (hka : scope.names.lookup a = some .local) (hkb : scope.names.lookup b = some .local) (hab : a ≠ b)
    (F : Fr h₀ L s.heap m) (N : News h₀ L s.heap news) (m1 : (l1, ({ cls := .type "tuple", data := .seq xs.toArray } : Obj)) ∈ news) (m2 : (l2, ({ cls := .type "tuple", data := .seq ys.toArray } : Obj)) ∈ news)
    (s1 : xs.length = 3) (s2 : ys.length = 3)
    (turn : ∀ (i : Nat) (C : Addr) (oC : Obj) (m₂ : Str → Option Value) (h : Heap) (tk : Nat) (x y : Value) (E' : Value → Shared → Prop) (Qt Qe : Shared → Prop), xs[i]? = some x → ys[i]? = some y → m₂ a = some x → m₂ b = some y → NsObj oC m₂ → Fr h₀ L h m → News h₀ L h [(C, oC)] →
      (∀ h' tk', Fr h₀ L h' m → Kept [] h h' → Qe { s with heap := h', toks := tk' }) → wpAny (model prog w) A (isTrue ct (compEnvC scope cl C env) (eval ct (compEnvC scope cl C env))) (fun ok s' => if ok = true then Qt s' else Qe s') E' { s with heap := h, toks := tk })
    (fin : ∀ (D : Addr) (h : Heap) (tk : Nat), AllNe D news → Fr h₀ L h m → News h₀ L h ((D, lst []) :: news) → Q (.ref D) { s with heap := h, toks := tk }) :
    wpAny (model prog w) A (call (.type "zip") [.ref l1, .ref l2]) (fun xv s₁ => wpAny (model prog w) A (pyIter xv) (fun it s₂ => wpAny (model prog w) A (newList []) (fun acc s₃ =>
      wpAny (model prog w) A (newFunctionEnv scope env.globals cl [] env.qual none .none (some env)) (fun cenv s₄ =>
        codeAny (model prog w) A (.compStart (.ListComp elt [⟨.Tuple [.Name a pa, .Name b pb] kk tp, iter, [ct], 0⟩] scope pos) 0 it acc { cenv with scope := relabel scope env }) (compPost (model prog w) A E none Q acc cenv.locals) s₄) E s₃) E s₂) E s₁) E s := by
  have t1 : s.heap.IsTuple l1 xs.toArray := ⟨_, (N _ m1).1, rfl, _, rfl⟩
  have t2 : s.heap.IsTuple l2 ys.toArray := ⟨_, (N _ m2).1, rfl, _, rfl⟩
  have b1 : l1 < s.heap.objs.size := Heap.lt_size (N _ m1).1
  have b2 : l2 < s.heap.objs.size := Heap.lt_size (N _ m2).1
  have fresh : ∀ d, s.heap.objs.size ≤ d → s.heap.get? d = none := fun d ha => by
    cases e : s.heap.get? d with
    | none => rfl
    | some o' => exact absurd (Heap.lt_size e) (Nat.not_lt.mpr ha)
  refine call_zip2t t1 t2 fun g hz hTI hTO hi1 hi2 hsz hk => ?_
  refine wpAny_pyIter_zip hz ?_
  generalize hS : s.heap.objs.size = S at *
  have hS' : ∀ y o, s.heap.get? y = some o → y < S := fun y o e => hS ▸ Heap.lt_size e
  have D : ZApart (S + 4) (S + 2) (S + 3) [⟨S, l1, true, xs.toArray⟩, ⟨S + 1, l2, true, ys.toArray⟩] := by
    have l1S := ltN b1
    have l2S := ltN b2
    refine ⟨?_, ?_, ?_, ?_, ?_, ?_⟩
    · show (S + 2 : Nat) ≠ S + 4; omega
    · show (S + 3 : Nat) ≠ S + 4; omega
    · show (S + 2 : Nat) ≠ S + 3; omega
    · intro q hq
      simp only [List.mem_cons, List.not_mem_nil, or_false] at hq
      rcases hq with rfl | rfl <;> (dsimp only; refine ⟨?_, ?_, ?_, ?_, ?_⟩ <;> (refine neN ?_; omega))
    · intro q hq q' hq'
      simp only [List.mem_cons, List.not_mem_nil, or_false] at hq hq'
      rcases hq with rfl | rfl <;> rcases hq' with rfl | rfl <;> (dsimp only; refine neN ?_; omega)
    · simp
  have W := zwalk2 (prog := prog) (w := w) (n := 3) hh D (by simpa using s1) (by simpa using s2)
  have hnew : ∀ b ∈ [S + 4, S + 3, S, S + 1], h₀.get? b = none ∧ b ≠ L := by
    intro b hb
    have hbS : (S : Nat) ≤ b := by
      simp only [List.mem_cons, List.not_mem_nil, or_false] at hb
      rcases hb with rfl | rfl | rfl | rfl <;> omega
    refine ⟨?_, fun e => ?_⟩
    · cases e : h₀.get? b with
      | none => rfl
      | some o => have q := F.keep b o e; rw [fresh b hbS] at q; cases q
    · have hl : L < s.heap.objs.size := F.ns.lt
      rw [hS] at hl
      rw [e] at hbS
      exact Nat.lt_irrefl _ (Nat.lt_of_lt_of_le hl hbS)
  refine zblockF (s := { s with heap := g }) (Good := fun i m'' => ∃ x y, xs[i]? = some x ∧ ys[i]? = some y ∧ m'' a = some x ∧ m'' b = some y) hh W hcell hkind
    ⟨hz, hTI, ⟨_, _, hTO⟩, ⟨hi1, ?_⟩, ⟨hi2, ?_⟩⟩ ?_ hnew (F.keeps hk) ?_ ?_ ?_
  · obtain ⟨o, e, r⟩ := t1; exact ⟨o, hk _ _ e, r⟩
  · obtain ⟨o, e, r⟩ := t2; exact ⟨o, hk _ _ e, r⟩
  · intro d hd
    show d < g.objs.size
    rw [hsz]
    have l1S := ltN b1
    have l2S := ltN b2
    simp only [List.mem_cons, List.not_mem_nil, or_false] at hd
    rcases hd with rfl | rfl | rfl | rfl | rfl | rfl | rfl <;> (refine ltN ?_; (try dsimp only); omega)
  · rintro C s' T i vals m' Q' E' hT ⟨x, y, e1, e2, rfl⟩ hn hQ
    refine kcp_assign (env := compEnvC scope cl C env) hh hT (lookup_relabel_local hka) (lookup_relabel_local hkb) (by simp [compEnvC, relabel, hkind]) hn fun h' tk hn' hk' => ?_
    exact hQ h' tk _ ⟨x, y, by simpa using e1, by simpa using e2, by simp [hab], by simp⟩ hn' hk'
  · rintro i C oC m₂ h tk E' Qt Qe hi ⟨x, y, e1, e2, g1, g2⟩ hC F' N' hq
    exact turn i C oC m₂ h tk x y E' Qt Qe e1 e2 g1 g2 hC F' N' hq
  · intro D' h tk F' N' hD K
    have hD' : s.heap.get? D' = none := by
      cases e : s.heap.get? D' with
      | none => rfl
      | some o => have q := hk _ _ e; have q' : g.get? D' = none := hD; rw [q'] at q; cases q
    refine fin D' h tk (allNe_of hD' N) F' fun p hp => ?_
    rcases List.mem_cons.mp hp with rfl | hp
    · exact N' _ (.head _)
    · refine ⟨K _ _ (hk _ _ (N p hp).1) fun hm => ?_, (N p hp).2⟩
      have hyS := ltN (hS' p.1 p.2 (N p hp).1)
      simp only [List.mem_cons, List.not_mem_nil, or_false] at hm
      rcases hm with e | e | e | e <;> (rw [e] at hyS; (try dsimp only at hyS); omega)
end

end
section
variable {prog : Program} {w : World} {p : Program} {loose : List Str} {mean : ExcName → Option Value} {mg mb : Str → Option Value}
  {dp un : Nat} {gd : Option (List Code)} {cn : Str} {cs : Scope} {a : Addr} {ccd : Value} {cl : List (Str × Addr)} {outer : List Env} {A₀ : Around} {base h₀ : Heap} {L : Addr} {m : Str → Option Value} {s : Shared} {Q E : Value → Shared → Prop}
/-- _law_begun, seen from a whole ledger -/
theorem beg_spec {sd l1 l2 : Addr} {trials : Int} {tt : Tok} {os : Obj} {kvs : List (Str × Value)} {vs1 vs2 : List Value} {ns1 ns2 : List Int} {n1 n2 : Nat} {news : List (Addr × Obj)}
    (B : Below A₀ base outer h₀) (F : Fr h₀ L s.heap m) (X : (hd.heap_39 w.params).In h₀) (N : News h₀ L s.heap news) (T : Top p loose mean mg mb h₀) (hk : cs.kind = .function)
    (hsd : (sd, os) ∈ news) (hos : os.IsDictOf (PySem.strKind prog w) kvs) (lo : (sd == sysModules) = false) (hv1 : valueAt kvs (Str.ofString "one") = some (.ref l1)) (hv2 : valueAt kvs (Str.ofString "two") = some (.ref l2))
    (hl1 : (l1, listOf vs1.toArray n1) ∈ news) (hl2 : (l2, listOf vs2.toArray n2) ∈ news) (hI1 : IntsAre vs1 ns1) (hI2 : IntsAre vs2 ns2) (hn1 : ns1 ≠ []) (hn2 : ns2 ≠ [])
    (hdp : dp + 4 < recursionLimit) (ht0 : 1 ≤ trials)
    (hret : ∀ (x dx ds dc t1 t2 : Addr) (oS oC : Obj) (v2 v3 a1 a2 a3 a4 : Tok) (u : ETok) (td : Int) (h' : Heap) (tk' : Nat), td = 0 + cntL 2 ns1 + cntL 1 ns1 + cntL 2 ns2 + cntL 1 ns2 →
      AllNe x news → AllNe dx news → AllNe ds news → AllNe dc news → AllNe t1 news → AllNe t2 news → Apart [x, dx, ds, dc, t1, t2] → (ds == sysModules) = false → (dc == sysModules) = false → oS.IsDictOf (PySem.strKind prog w) (stored (stored [] (Str.ofString "one") (.ref t1)) (Str.ofString "two") (.ref t2)) → oC.IsDictOf (PySem.strKind prog w) [] →
      Fr h₀ L h' m → News h₀ L h' ((x, instObj 85 dx) :: (dx, ecn w.params trials (stOf trials td) v2 td v3 ds dc u) :: (ds, oS) :: (dc, oC) :: (t1, tup2 (cntL 2 ns1) (cntL 1 ns1) a1 a2) :: (t2, tup2 (cntL 2 ns2) (cntL 1 ns2) a3 a4) :: news) → Q (.ref x) { s with heap := h', toks := tk' }) :
    wpAny (model prog w) (ktrTop dp un gd cn cs L a ccd cl outer) (call (.ref 108) [.ref sd, .int trials tt]) Q E s := by
  obtain ⟨es, ep, ed⟩ := dict_data hos
  refine beg_core B F X (news_sub N (List.forall_mem_cons.mpr ⟨hsd, List.forall_mem_nil _⟩)) T hk hos lo hv1 hv2 ⟨_, (N _ hl1).1, rfl, _, rfl⟩ ⟨_, (N _ hl2).1, rfl, _, rfl⟩ hI1 hI2 hn1 hn2
    ⟨dif_of N hsd hl1 (fun e => by rw [ed] at e; cases e), dif_of N hsd hl2 (fun e => by rw [ed] at e; cases e)⟩ hdp ht0 ?_
  rintro x dx ds dc t1 t2 oS oC z1 o1 z2 o2 td v2 v3 a1 a2 a3 a4 u h' tk' rfl rfl rfl rfl e5 hf hap lo1 lo2 hS hC F' N' K
  have fr : ∀ d ∈ [x, dx, ds, dc, t1, t2], AllNe d news := fun d hd => allNe_of (hf d hd) N
  refine hret x dx ds dc t1 t2 oS oC v2 v3 a1 a2 a3 a4 u td h' tk' e5 (fr _ (by simp)) (fr _ (by simp)) (fr _ (by simp)) (fr _ (by simp)) (fr _ (by simp)) (fr _ (by simp)) hap lo1 lo2 hS hC F' fun p hp => ?_
  have NK := news_keep N K
  simp only [List.mem_cons] at hp
  rcases hp with h | h | h | h | h | h | h
  · exact N' p (by simp [h])
  · exact N' p (by simp [h])
  · exact N' p (by simp [h])
  · exact N' p (by simp [h])
  · exact N' p (by simp [h])
  · exact N' p (by simp [h])
  · exact NK p h

end
section
variable {prog : Program} {w : World} {p : Program} {loose : List Str} {mean : ExcName → Option Value} {mg mb : Str → Option Value}
  {dp un : Nat} {gd : Option (List Code)} {cn : Str} {cs : Scope} {a : Addr} {ccd : Value} {cl : List (Str × Addr)} {outer : List Env} {A₀ : Around} {base h₀ : Heap} {L : Addr} {m : Str → Option Value} {s : Shared} {Q E : Value → Shared → Prop}
theorem ack_failed {x dx ds dc : Addr} {trials td : Int} {sp : Str} {v2 v3 us : Tok} {u : ETok} {cv mv : Value}
    (B : Below A₀ base outer h₀) (F : Fr h₀ L s.heap m) (X : (hd.heap_39 w.params).In h₀) (N : News h₀ L s.heap [(x, instObj 85 dx), (dx, ecn w.params trials (Str.ofString "failed") v2 td v3 ds dc u)]) (T : Top p loose mean mg mb h₀) (hk : cs.kind = .function)
    (hdp : dp + 4 < recursionLimit)
    (hret : ∀ (tr : Tok) (h' : Heap) (tk' : Nat), Fr h₀ L h' m → Kept [] s.heap h' → Q (.int 0 tr) { s with heap := h', toks := tk' }) :
    wpAny (model prog w) (ktrTop dp un gd cn cs L a ccd cl outer) (call (.ref 82) [.ref x, .str sp us, cv, mv, .bool true]) Q E s := by
  refine wpAny_call ?_
  k_dflt cell_enter
  k_steps
  rename GSub (Shared.heap s) _ _ => kG
  exact hret _ _ _ (by assumption) (kept_of kG (by assumption) N (by assumption) (by walk_at "my kept"))
theorem ack_false {x : Addr} {sp : Str} {us : Tok} {cv mv : Value}
    (B : Below A₀ base outer h₀) (F : Fr h₀ L s.heap m) (X : (hd.heap_39 w.params).In h₀) (T : Top p loose mean mg mb h₀) (hk : cs.kind = .function)
    (hdp : dp + 4 < recursionLimit)
    (hret : ∀ (tr : Tok) (h' : Heap) (tk' : Nat), Fr h₀ L h' m → Kept [] s.heap h' → Q (.int 0 tr) { s with heap := h', toks := tk' }) :
    wpAny (model prog w) (ktrTop dp un gd cn cs L a ccd cl outer) (call (.ref 82) [.ref x, .str sp us, cv, mv, .bool false]) Q E s := by
  have N : News h₀ L s.heap [] := List.forall_mem_nil _
  refine wpAny_call ?_
  k_dflt cell_enter
  k_steps
  rename GSub (Shared.heap s) _ _ => kG
  exact hret _ _ _ (by assumption) (kept_of kG (by assumption) N (by assumption) (by walk_at "my kept"))

end
section
variable {prog : Program} {w : World} {p : Program} {loose : List Str} {mean : ExcName → Option Value} {mg mb : Str → Option Value}
  {dp un : Nat} {gd : Option (List Code)} {cn : Str} {cs : Scope} {a : Addr} {ccd : Value} {cl : List (Str × Addr)} {outer : List Env} {A₀ : Around} {base h₀ : Heap} {L : Addr} {m : Str → Option Value} {s : Shared} {Q E : Value → Shared → Prop}
abbrev C3 := Int × Int × Int
/-- the counts that a step tells -/
def CvIs (v : Value) (kc : Addr) (oc : Obj) : Option C3 → Prop
  | none => v = .none ∧ ∃ xs ep, oc.data = .seq xs ep
  | some c => v = .ref kc ∧ ∃ a1 a2 a3, oc = tup3 c.1 c.2.1 c.2.2 a1 a2 a3
/-- what the dict of the counts says of a space -/
def CntIs (ckvs : List (Str × Value)) (sp : Str) (kb : Addr) (ob : Obj) (z o c : Int) : Prop :=
  (valueAt ckvs sp = none ∧ z = 0 ∧ o = 0 ∧ c = 0 ∧ ∃ xs ep, ob.data = .seq xs ep) ∨ (valueAt ckvs sp = some (.ref kb) ∧ ∃ a1 a2 a3, ob = tup3 z o c a1 a2 a3)
def Fits (z o c z' o' c' n2 n1 sz so : Int) : Prop :=
  z ≤ z' ∧ o ≤ o' ∧ c ≤ c' ∧ n2 ≤ z' - z + (c' - c) ∧ n1 ≤ o' - o + (c' - c) ∧ n2 + n1 ≤ z' - z + (o' - o) + (c' - c) ∧ z' ≤ sz ∧ o' ≤ so ∧ z' + o' + c' ≤ sz + so
abbrev failedS : Str := Str.ofString "failed"
/-- what an acknowledgement brings about -/
def Acked (st : Str) (z o c : Int) (k : Option C3) (n2 n1 sz so : Int) (st' : Str) (z' o' c' : Int) : Prop :=
  (st = failedS ∧ st' = failedS ∧ z' = z ∧ o' = o ∧ c' = c) ∨
  (st ≠ failedS ∧ match k with
    | none => z' = z ∧ o' = o ∧ c' = c ∧ ((n2 + n1 = 0 ∧ st' = st) ∨ (n2 + n1 ≠ 0 ∧ st' = failedS))
    | some q => (Fits z o c q.1 q.2.1 q.2.2 n2 n1 sz so ∧ st' = ackSt st (n2 + n1) ∧ z' = q.1 ∧ o' = q.2.1 ∧ c' = q.2.2) ∨ (¬ Fits z o c q.1 q.2.1 q.2.2 n2 n1 sz so ∧ st' = failedS ∧ z' = z ∧ o' = o ∧ c' = c))
theorem failed_ne {st : Str} (h : st ≠ failedS) : (st == Str.ofString "failed") = false := by
  cases e : (st == Str.ofString "failed") with
  | false => rfl
  | true => exact absurd (eq_of_beq e) h
theorem upd_same {d : Addr} {o : Obj} {news : List (Addr × Obj)} {g : Obj → List (Addr × Obj)} (U : UpdF d o news g) : g o = news := by
  obtain ⟨pre, post, rfl, hg, a, b⟩ := U.split
  exact hg o
theorem upd_mem {d y : Addr} {o oy o' : Obj} {news : List (Addr × Obj)} {g : Obj → List (Addr × Obj)} (U : UpdF d o news g) (h : (y, oy) ∈ news) (hne : y ≠ d) : (y, oy) ∈ g o' := by
  obtain ⟨pre, post, rfl, hg, a, b⟩ := U.split
  rw [hg]
  rcases List.mem_append.mp h with h | h
  · exact List.mem_append.mpr (.inl h)
  · rcases List.mem_cons.mp h with h | h
    · exact absurd (congrArg Prod.fst h) hne
    · exact List.mem_append.mpr (.inr (.tail _ h))
/-- on_ack, whatever it brings about -/
theorem ack_any {x dx ds dc t kc kb lm : Addr} {trials td : Int} {st sp : Str} {v2 v3 : Tok} {u : ETok} {oS oC oc ob : Obj} {kvs ckvs : List (Str × Value)} {sz so z o c : Int} {k : Option C3} {cv : Value} {u1 u2 us : Tok} {vs : List Value} {ns : List Int} {nl : Nat} {news : List (Addr × Obj)} {g1 : Obj → List (Addr × Obj)} {g2 : Obj → Obj → List (Addr × Obj)}
    (B : Below A₀ base outer h₀) (F : Fr h₀ L s.heap m) (X : (hd.heap_39 w.params).In h₀) (N : News h₀ L s.heap news) (T : Top p loose mean mg mb h₀) (hk : cs.kind = .function)
    (hcv : CvIs cv kc oc k) (hkc : (kc, oc) ∈ news)
    (hx : (x, instObj 85 dx) ∈ news) (U1 : UpdF dx (ecn w.params trials st v2 td v3 ds dc u) news g1) (U2 : ∀ o', UpdF dc oC (g1 o') (g2 o')) (hds : (ds, oS) ∈ news)
    (hoS : oS.IsDictOf (PySem.strKind prog w) kvs) (hoC : oC.IsDictOf (PySem.strKind prog w) ckvs) (lo : (ds == sysModules) = false) (lo2 : (dc == sysModules) = false)
    (hv : valueAt kvs sp = some (.ref t)) (ht : (t, tup2 sz so u1 u2) ∈ news) (hC : CntIs ckvs sp kb ob z o c) (hkb : (kb, ob) ∈ news) (hlm : (lm, listOf vs.toArray nl) ∈ news) (hz : ckvs.length ≤ 1)
    (hI : IntsAre vs ns) (d1 : Dif dx ds) (d2 : Dif dx dc) (d3 : Dif dc ds) (hdp : dp + 4 < recursionLimit)
    (hs1 : z ≤ sz) (hs2 : o ≤ so) (hs3 : z + o + c ≤ sz + so)
    (hret : ∀ (st' : Str) (oC' ob' : Obj) (ckvs' : List (Str × Value)) (kb' : Addr) (z' o' c' r : Int) (v2' tr : Tok) (h' : Heap) (tk' : Nat),
      Acked st z o c k (ns.count 2 : Int) (ns.count 1 : Int) sz so st' z' o' c' → z ≤ z' → o ≤ o' → c ≤ c' → z' ≤ sz → o' ≤ so → z' + o' + c' ≤ sz + so → r = c' - c → Either kb' kb kc → CntIs ckvs' sp kb' ob' z' o' c' → (∀ q, q ≠ sp → valueAt ckvs' q = valueAt ckvs q) → ckvs'.length ≤ ckvs.length + 1 → oC'.IsDictOf (PySem.strKind prog w) ckvs' →
      (ckvs' = ckvs ∨ ckvs' = stored ckvs sp (.ref kc)) → Fr h₀ L h' m → News h₀ L h' ((kb', ob') :: g2 (ecn w.params trials st' v2' td v3 ds dc u) oC') → Q (.int r tr) { s with heap := h', toks := tk' }) :
    wpAny (model prog w) (ktrTop dp un gd cn cs L a ccd cl outer) (call (.ref 82) [.ref x, .str sp us, cv, .ref lm, .bool true]) Q E s := by
  have hdx := (updF_rest U1).1
  have hdc := second_in U1 U2 (fun e => d2 e.symm)
  have seqne : ∀ {d y : Addr} {od oy : Obj}, (d, od) ∈ news → (∃ es ep, od.data = .dict es ep) → (y, oy) ∈ news → (∃ xs ep, oy.data = .seq xs ep) → d ≠ y := by
    rintro d y od oy hd ⟨es, ep, ed⟩ hy ⟨xs, ep', ey⟩ e
    exact dif_of N hd hy (fun e => by rw [ed, ey] at e; cases e) e
  have hob : ∃ xs ep, ob.data = .seq xs ep := by
    rcases hC with ⟨_, _, _, _, h⟩ | ⟨_, a1, a2, a3, rfl⟩
    · exact h
    · exact ⟨_, _, rfl⟩
  have nkb1 : dx ≠ kb := seqne hdx ⟨_, _, rfl⟩ hkb hob
  have nkb2 : dc ≠ kb := seqne hdc (dict_data hoC) hkb hob
  have same : ∀ {h' : Heap} {o1 o2 : Obj} {new1 : List (Addr × Obj)}, News h₀ L h' new1 → (dx, o1) ∈ new1 → (dc, o2) ∈ new1 → Kept [dx, dc] s.heap h' → News h₀ L h' ((kb, ob) :: g2 o1 o2) := fun {h' o1 o2 new1} N' m1 m2 K =>
    List.forall_mem_cons.mpr ⟨⟨K _ _ (N _ hkb).1 (by simp only [List.mem_cons, List.not_mem_nil, or_false, not_or]; exact ⟨nkb1.symm, nkb2.symm⟩), (N _ hkb).2⟩, two_turned N U1 U2 N' m1 m2 K⟩
  have k2 : ∀ {h' : Heap} {us : List Addr}, Kept [] s.heap h' → Kept us s.heap h' := fun K x o e _ => K x o e (by simp)
  have k1 : ∀ {h' : Heap}, Kept [dx] s.heap h' → Kept [dx, dc] s.heap h' := fun K x o e hx => K x o e (by simp only [List.mem_cons, List.not_mem_nil, or_false, not_or] at hx ⊢; exact hx.1)
  have dcd : ∀ {h' : Heap}, Kept [dx] s.heap h' → News h₀ L h' [(dc, oC)] := fun K => List.forall_mem_cons.mpr ⟨⟨K _ _ (N _ hdc).1 (by simpa using fun e => d2 e.symm), (N _ hdc).2⟩, List.forall_mem_nil _⟩
  have bring : ∀ {a b : List (Addr × Obj)} {h' : Heap}, News h₀ L h' a → News h₀ L h' b → News h₀ L h' (a ++ b) := fun A B p hp => (List.mem_append.mp hp).elim (A p) (B p)
  by_cases hst : st = failedS
  · subst hst
    refine ack_failed B F X (news_sub N (List.forall_mem_cons.mpr ⟨hx, List.forall_mem_cons.mpr ⟨hdx, List.forall_mem_nil _⟩⟩)) T hk hdp fun tr h' tk' F' K => ?_
    exact hret _ _ _ _ kb z o c 0 v2 tr h' tk' (.inl ⟨rfl, rfl, rfl, rfl, rfl⟩) (Int.le_refl _) (Int.le_refl _) (Int.le_refl _) hs1 hs2 hs3 (by omega) (.inl rfl) hC (fun _ _ => rfl) (by omega) hoC (.inl rfl) F' (same (news_keep N K) hdx hdc (k2 K))
  · have hst' := failed_ne hst
    cases k with
    | none =>
      obtain ⟨rfl, _⟩ := hcv
      refine ack_none_spec B F X N T hk hx U1 hdc hds hoS hoC lo lo2 hv ht hlm (by omega) hst' hI d1 d2 d3 hdp (fun v2' tr h' tk' hf F' N' => ?_) (fun tr h' tk' hf F' N' => ?_)
      · refine hret _ oC _ _ kb z o c 0 v2' tr h' tk' (.inr ⟨hst, rfl, rfl, rfl, .inr ⟨hf, rfl⟩⟩) (Int.le_refl _) (Int.le_refl _) (Int.le_refl _) hs1 hs2 hs3 (by omega) (.inl rfl) hC (fun _ _ => rfl) (by omega) hoC (.inl rfl) F' ?_
        refine List.forall_mem_cons.mpr ⟨?_, ?_⟩
        · exact N' _ (upd_mem U1 hkb (Ne.symm nkb1))
        · rw [upd_same (U2 _)]; exact N'
      · refine hret _ oC _ _ kb z o c 0 v2 tr h' tk' (.inr ⟨hst, rfl, rfl, rfl, .inl ⟨hf, rfl⟩⟩) (Int.le_refl _) (Int.le_refl _) (Int.le_refl _) hs1 hs2 hs3 (by omega) (.inl rfl) hC (fun _ _ => rfl) (by omega) hoC (.inl rfl) F' ?_
        refine List.forall_mem_cons.mpr ⟨N' _ hkb, ?_⟩
        rw [upd_same (U2 _), upd_same U1]; exact N'
    | some q =>
      obtain ⟨z1, o1, c1⟩ := q
      obtain ⟨rfl, a1, a2, a3, rfl⟩ := hcv
      have hC' : CntAt news ckvs sp z o c := by
        rcases hC with ⟨h, r1, r2, r3, _⟩ | ⟨h, b1, b2, b3, rfl⟩
        · exact .inl ⟨h, r1, r2, r3⟩
        · exact .inr ⟨_, _, _, _, h, hkb⟩
      refine ack_some_spec B F X N T hk hx U1 U2 hds hoS hoC lo lo2 hv ht hC' hkc hlm (by omega) hst' hI d1 d2 d3 hdp (fun v2' tr h' tk' hf F' N' => ?_) (fun st' oC' v2' tr h' tk' f1 f2 f3 f4 f5 f6 f7 f8 f9 hs hd F' N' => ?_)
      · refine hret _ oC _ _ kb z o c 0 v2' tr h' tk' (.inr ⟨hst, .inr ⟨hf, rfl, rfl, rfl, rfl⟩⟩) (Int.le_refl _) (Int.le_refl _) (Int.le_refl _) hs1 hs2 hs3 (by omega) (.inl rfl) hC (fun _ _ => rfl) (by omega) hoC (.inl rfl) F' ?_
        refine List.forall_mem_cons.mpr ⟨N' _ (upd_mem U1 hkb (Ne.symm nkb1)), ?_⟩
        rw [upd_same (U2 _)]; exact N'
      · have nkc1 : dx ≠ kc := seqne hdx ⟨_, _, rfl⟩ hkc ⟨_, _, rfl⟩
        have nkc2 : dc ≠ kc := seqne hdc (dict_data hoC) hkc ⟨_, _, rfl⟩
        refine hret st' oC' (tup3 z1 o1 c1 a1 a2 a3) (stored ckvs sp (.ref kc)) kc z1 o1 c1 _ v2' tr h' tk' (.inr ⟨hst, .inl ⟨⟨f1, f2, f3, f4, f5, f6, f7, f8, f9⟩, hs, rfl, rfl, rfl⟩⟩) f1 f2 f3 f7 f8 f9 rfl (.inr rfl) (.inr ⟨valueAt_stored, _, _, _, rfl⟩) (fun q hq => valueAt_stored_ne (fun e => hq e.symm)) stored_len hd (.inr rfl) F' ?_
        exact List.forall_mem_cons.mpr ⟨N' _ (upd_mem (U2 _) (upd_mem U1 hkc (Ne.symm nkc1)) (Ne.symm nkc2)), N'⟩

end
section
variable {prog : Program} {w : World} {p : Program} {loose : List Str} {mean : ExcName → Option Value} {mg mb : Str → Option Value}
  {dp un : Nat} {gd : Option (List Code)} {cn : Str} {cs : Scope} {a : Addr} {ccd : Value} {cl : List (Str × Addr)} {outer : List Env} {A₀ : Around} {base h₀ : Heap} {L : Addr} {m : Str → Option Value} {s : Shared} {Q E : Value → Shared → Prop}
/-- _law_begun, looked at in one of the two spaces -/
theorem beg_specG {sd l1 l2 : Addr} {trials : Int} {tt : Tok} {sp : Str} {os : Obj} {kvs : List (Str × Value)} {vs1 vs2 : List Value} {ns1 ns2 ns : List Int} {n1 n2 : Nat} {news : List (Addr × Obj)}
    (B : Below A₀ base outer h₀) (F : Fr h₀ L s.heap m) (X : (hd.heap_39 w.params).In h₀) (N : News h₀ L s.heap news) (T : Top p loose mean mg mb h₀) (hk : cs.kind = .function)
    (hsd : (sd, os) ∈ news) (hos : os.IsDictOf (PySem.strKind prog w) kvs) (lo : (sd == sysModules) = false) (hv1 : valueAt kvs (Str.ofString "one") = some (.ref l1)) (hv2 : valueAt kvs (Str.ofString "two") = some (.ref l2))
    (hl1 : (l1, listOf vs1.toArray n1) ∈ news) (hl2 : (l2, listOf vs2.toArray n2) ∈ news) (hI1 : IntsAre vs1 ns1) (hI2 : IntsAre vs2 ns2) (hn1 : ns1 ≠ []) (hn2 : ns2 ≠ [])
    (hsp : sp = Str.ofString "one" ∧ ns = ns1 ∨ sp = Str.ofString "two" ∧ ns = ns2)
    (hdp : dp + 4 < recursionLimit) (ht0 : 1 ≤ trials)
    (hret : ∀ (x dx ds dc t : Addr) (oS oC : Obj) (kvS : List (Str × Value)) (v2 v3 a1 a2 : Tok) (u : ETok) (h' : Heap) (tk' : Nat),
      AllNe x news → AllNe dx news → AllNe ds news → AllNe dc news → AllNe t news → Apart [x, dx, ds, dc, t] → (ds == sysModules) = false → (dc == sysModules) = false → oS.IsDictOf (PySem.strKind prog w) kvS → valueAt kvS sp = some (.ref t) → CntIs [] sp t (tup2 (cntL 2 ns) (cntL 1 ns) a1 a2) 0 0 0 → oC.IsDictOf (PySem.strKind prog w) [] →
      Fr h₀ L h' m → News h₀ L h' ((x, instObj 85 dx) :: (dx, ecn w.params trials (stOf trials (0 + cntL 2 ns1 + cntL 1 ns1 + cntL 2 ns2 + cntL 1 ns2)) v2 (0 + cntL 2 ns1 + cntL 1 ns1 + cntL 2 ns2 + cntL 1 ns2) v3 ds dc u) :: (ds, oS) :: (dc, oC) :: (t, tup2 (cntL 2 ns) (cntL 1 ns) a1 a2) :: news) → Q (.ref x) { s with heap := h', toks := tk' }) :
    wpAny (model prog w) (ktrTop dp un gd cn cs L a ccd cl outer) (call (.ref 108) [.ref sd, .int trials tt]) Q E s := by
  refine beg_spec B F X N T hk hsd hos lo hv1 hv2 hl1 hl2 hI1 hI2 hn1 hn2 hdp ht0 ?_
  rintro x dx ds dc t1 t2 oS oC v2 v3 a1 a2 a3 a4 u td h' tk' rfl f1 f2 f3 f4 f5 f6 hap lo1 lo2 hS hC F' N'
  have two : ∀ {k k' : Str} {v v' : Value}, k ≠ k' → valueAt (stored (stored [] k v) k' v') k = some v := fun h => (valueAt_stored_ne (fun e => h e.symm)).trans valueAt_stored
  rcases hsp with ⟨rfl, rfl⟩ | ⟨rfl, rfl⟩
  · refine hret x dx ds dc t1 oS oC _ v2 v3 a1 a2 u h' tk' f1 f2 f3 f4 f5 ?_ lo1 lo2 hS (two (by decide)) (.inl ⟨rfl, rfl, rfl, rfl, _, _, rfl⟩) hC F' (news_sub N' fun p hp => ?_)
    · simp only [Apart, NeAll] at hap ⊢; simp only [hap, and_self]
    · simp only [List.mem_cons] at hp ⊢; rcases hp with h | h | h | h | h | h <;> simp [h]
  · refine hret x dx ds dc t2 oS oC _ v2 v3 a3 a4 u h' tk' f1 f2 f3 f4 f6 ?_ lo1 lo2 hS valueAt_stored (.inl ⟨rfl, rfl, rfl, rfl, _, _, rfl⟩) hC F' (news_sub N' fun p hp => ?_)
    · simp only [Apart, NeAll] at hap ⊢; simp only [hap, and_self]
    · simp only [List.mem_cons] at hp ⊢; rcases hp with h | h | h | h | h | h <;> simp [h]

end
section
variable {prog : Program} {w : World} {p : Program} {loose : List Str} {mean : ExcName → Option Value} {mg mb : Str → Option Value}
  {dp un : Nat} {gd : Option (List Code)} {cn : Str} {cs : Scope} {a : Addr} {ccd : Value} {cl : List (Str × Addr)} {outer : List Env} {A₀ : Around} {base h₀ : Heap} {L : Addr} {m : Str → Option Value} {s : Shared} {Q E : Value → Shared → Prop}
local macro_rules | `(tactic| walk_at "my cat") => `(tactic| first | with_reducible assumption | exact cntAt_more (by walk_at "my cat"))
local macro_rules | `(tactic| k_mem) => `(tactic| first | exact List.mem_cons_self | ktr_member | (refine List.mem_cons_of_mem _ ?_; k_mem))

abbrev tupAll (st : Str) (p1 p2 : Addr) (v : Tok) : Obj := { cls := .type "tuple", data := .seq [.str st v, .ref p1, .ref p2].toArray }
@[reducible] def stopsAll (n : Nat) : Prop := n = 61
local macro_rules | `(tactic| walk_at "call ref") => `(tactic| k_dflt (refine stopCall (P := stopsAll) (by decide) ?_))
/-- _law_all -/
theorem all_spec {x dx ds dc : Addr} {trials td : Int} {st : Str} {v2 v3 : Tok} {u : ETok} {oC : Obj} {ckvs : List (Str × Value)} {z1 o1 c1 z2 o2 c2 : Int} {news : List (Addr × Obj)}
    (B : Below A₀ base outer h₀) (F : Fr h₀ L s.heap m) (X : (hd.heap_39 w.params).In h₀) (N : News h₀ L s.heap news) (T : Top p loose mean mg mb h₀) (hk : cs.kind = .function)
    (hx : (x, instObj 85 dx) ∈ news) (hdx : (dx, ecn w.params trials st v2 td v3 ds dc u) ∈ news) (hdc : (dc, oC) ∈ news)
    (hoC : oC.IsDictOf (PySem.strKind prog w) ckvs) (lo2 : (dc == sysModules) = false) (hz : ckvs.length ≤ 2)
    (hC1 : CntAt news ckvs (Str.ofString "one") z1 o1 c1) (hC2 : CntAt news ckvs (Str.ofString "two") z2 o2 c2) (hdp : dp + 3 < recursionLimit)
    (hret : ∀ (R p1 p2 : Addr) (v : Tok) (a1 a2 a3 a4 a5 a6 : Tok) (h' : Heap) (tk' : Nat), AllNe R news → Fr h₀ L h' m →
      News h₀ L h' ((R, tupAll st p1 p2 v) :: (p1, tup3 z1 o1 c1 a1 a2 a3) :: (p2, tup3 z2 o2 c2 a4 a5 a6) :: news) → Q (.ref R) { s with heap := h', toks := tk' }) :
    wpAny (model prog w) (ktrTop dp un gd cn cs L a ccd cl outer) (call (.ref 115) [.ref x]) Q E s := by
  have hfr : ∀ {d : Addr}, s.heap.get? d = none → AllNe d news := fun e => allNe_of e N
  refine wpAny_call ?_
  k_dflt cell_enter
  repeat' (first | ((with_reducible refine go ?_); (first | ((k_here; (with_reducible show wpAny _ _ (call (Value.ref 54) [Value.ref _, Value.str _ _]) _ _ _); k_dflt (apply sent_at (u := ⟨_, _, _, _, _, _, _, _⟩); walk_at "my six"; (focus k_mem); (focus k_mem); (focus k_mem); k_asm; k_asm; (with_reducible assumption); (focus ktr_room)); intro h9 tk9 K9 F9 N9; (try dsimp only); (try k_sweep))) | ((k_here; (with_reducible show wpAny _ _ (call (Value.ref 61) [Value.ref _, Value.str _ _]) _ _ _); k_dflt (apply counts_at (u := ⟨_, _, _, _, _, _, _, _⟩); walk_at "my six"; (focus k_mem); (focus k_mem); (focus k_mem); k_asm; k_asm; (focus walk_at "my cat"); walk_at "my le"; (focus ktr_room)); intro q9 a19 a29 a39 h9 tk9 b9 K9 F9 N9; clear b9; (try dsimp only); (try k_sweep))))) | (k_unfold; (try dsimp only)) | (k_end; kc_close) | walk1 | (dsimp only; walk1) | (leave1; (try dsimp only)) | fail "no step")
  rename GSub (Shared.heap s) _ _ => kG
  have K : Kept [] s.heap _ := kept_of (us := []) kG (by assumption) N (by assumption) (fun p hp => Or.inr (List.mem_cons_of_mem _ (List.mem_cons_of_mem _ (List.mem_cons_of_mem _ hp))))
  refine' hret _ _ _ _ _ _ _ _ _ _ _ _ ?a ?b ?c
  case b => assumption
  case a =>
    rename _ ∧ _ ∧ AllLt _ _ => l9
    exact allLt_ne l9.2.2
  case c =>
    refine List.forall_mem_cons.mpr ⟨?c1, List.forall_mem_cons.mpr ⟨?c2, List.forall_mem_cons.mpr ⟨?c3, news_keep N K⟩⟩⟩
    case c1 => exact (by assumption : News h₀ L _ _) _ (by k_mem)
    case c2 => exact (by assumption : News h₀ L _ _) _ (by k_mem)
    case c3 => exact (by assumption : News h₀ L _ _) _ (by k_mem)
def atSp (sp q : Str) (v : Int) : Int := if sp = q then v else 0
theorem cntAt_one {news : List (Addr × Obj)} {sp q : Str} {k : Addr} {z o c : Int} {u v x : Tok} (h : (k, tup3 z o c u v x) ∈ news) : CntAt news (stored [] sp (.ref k)) q (atSp sp q z) (atSp sp q o) (atSp sp q c) := by
  by_cases e : sp = q
  · subst e
    refine .inr ⟨k, u, v, x, valueAt_stored, ?_⟩
    simpa [atSp] using h
  · refine .inl ⟨valueAt_stored_ne e, ?_, ?_, ?_⟩ <;> simp [atSp, e]
theorem cntAt_two {news : List (Addr × Obj)} {sp q : Str} {v1 : Value} {k : Addr} {z o c : Int} {u v x : Tok} (h : (k, tup3 z o c u v x) ∈ news) : CntAt news (stored (stored [] sp v1) sp (.ref k)) q (atSp sp q z) (atSp sp q o) (atSp sp q c) := by
  rw [stored_stored]
  exact cntAt_one h
theorem cntAt_nil {news : List (Addr × Obj)} {q : Str} : CntAt news [] q 0 0 0 := .inl ⟨rfl, rfl, rfl, rfl⟩

end
section
variable {prog : Program} {w : World} {p : Program} {loose : List Str} {mean : ExcName → Option Value} {mg mb : Str → Option Value}
  {dp un : Nat} {gd : Option (List Code)} {cn : Str} {cs : Scope} {a : Addr} {ccd : Value} {cl : List (Str × Addr)} {outer : List Env} {A₀ : Around} {base h₀ : Heap} {L : Addr} {m : Str → Option Value} {s : Shared} {Q E : Value → Shared → Prop}
theorem stOf_ok {trials td : Int} : (stOf trials td == Str.ofString "failed") = false := by unfold stOf; split <;> decide
section
variable {A : Around}
open LCg in
/-- [elt for a, b in zip(tuple, tuple) if b < a]: empty where no item falls -/
theorem zle {env : Env} {ct elt iter : Expr} {a b : Str} {pa pb tp pos : Pos} {kk : Nat} {scope : Scope} {cl : List (Str × Addr)} {l1 l2 : Addr} {x1 x2 x3 y1 y2 y3 : Int} {t1 t2 t3 t4 t5 t6 : Tok} {news : List (Addr × Obj)}
    {Q : Value → Shared → Prop} (hh : A.handled = none) (hcell : ∀ y ∈ scope.names, y.2 ≠ .cell) (hkind : scope.kind = .function)
    (hka : scope.names.lookup a = some .local) (hkb : scope.names.lookup b = some .local) (hab : a ≠ b)
    (F : Fr h₀ L s.heap m) (N : News h₀ L s.heap news) (m1 : (l1, tup3 x1 x2 x3 t1 t2 t3) ∈ news) (m2 : (l2, tup3 y1 y2 y3 t4 t5 t6) ∈ news)
    (e1 : x1 ≤ y1) (e2 : x2 ≤ y2) (e3 : x3 ≤ y3)
    (turn : ∀ (C : Addr) (oC : Obj) (m₂ : Str → Option Value) (h : Heap) (tk : Nat) (x y : Int) (t t' : Tok) (E' : Value → Shared → Prop) (Qt Qe : Shared → Prop), x ≤ y → m₂ a = some (.int x t) → m₂ b = some (.int y t') → NsObj oC m₂ → Fr h₀ L h m → News h₀ L h [(C, oC)] →
      (∀ h' tk', Fr h₀ L h' m → Kept [] h h' → Qe { s with heap := h', toks := tk' }) → wpAny (model prog w) A (isTrue ct (compEnvC scope cl C env) (eval ct (compEnvC scope cl C env))) (fun ok s' => if ok = true then Qt s' else Qe s') E' { s with heap := h, toks := tk })
    (fin : ∀ (D : Addr) (h : Heap) (tk : Nat), AllNe D news → Fr h₀ L h m → News h₀ L h ((D, lst []) :: news) → Q (.ref D) { s with heap := h, toks := tk }) :
    wpAny (model prog w) A (call (.type "zip") [.ref l1, .ref l2]) (fun xv s₁ => wpAny (model prog w) A (pyIter xv) (fun it s₂ => wpAny (model prog w) A (newList []) (fun acc s₃ =>
      wpAny (model prog w) A (newFunctionEnv scope env.globals cl [] env.qual none .none (some env)) (fun cenv s₄ =>
        codeAny (model prog w) A (.compStart (.ListComp elt [⟨.Tuple [.Name a pa, .Name b pb] kk tp, iter, [ct], 0⟩] scope pos) 0 it acc { cenv with scope := relabel scope env }) (compPost (model prog w) A E none Q acc cenv.locals) s₄) E s₃) E s₂) E s₁) E s := by
  refine zcomp2 hh hcell hkind hka hkb hab F N m1 m2 rfl rfl (fun i C oC m₂ h tk x y E' Qt Qe ex ey g1 g2 hC F' N' hq => ?_) fin
  match i, ex, ey with
  | 0, ex, ey => cases ex; cases ey; exact turn C oC m₂ h tk _ _ _ _ E' Qt Qe e1 g1 g2 hC F' N' hq
  | 1, ex, ey => cases ex; cases ey; exact turn C oC m₂ h tk _ _ _ _ E' Qt Qe e2 g1 g2 hC F' N' hq
  | 2, ex, ey => cases ex; cases ey; exact turn C oC m₂ h tk _ _ _ _ E' Qt Qe e3 g1 g2 hC F' N' hq
  | i + 3, ex, ey => cases ex
end

end
section
variable {prog : Program} {w : World} {p : Program} {loose : List Str} {mean : ExcName → Option Value} {mg mb : Str → Option Value}
  {dp un : Nat} {gd : Option (List Code)} {cn : Str} {cs : Scope} {a : Addr} {ccd : Value} {cl : List (Str × Addr)} {outer : List Env} {A₀ : Around} {base h₀ : Heap} {L : Addr} {m : Str → Option Value} {s : Shared} {Q E : Value → Shared → Prop}
/-- counts_in -/
theorem counts_any {x dx ds dc kb : Addr} {trials td z o c : Int} {st sp : Str} {v2 v3 us : Tok} {u : ETok} {oC ob : Obj} {ckvs : List (Str × Value)} {news : List (Addr × Obj)}
    (B : Below A₀ base outer h₀) (F : Fr h₀ L s.heap m) (X : (hd.heap_39 w.params).In h₀) (N : News h₀ L s.heap news) (T : Top p loose mean mg mb h₀) (hk : cs.kind = .function)
    (hx : (x, instObj 85 dx) ∈ news) (hdx : (dx, ecn w.params trials st v2 td v3 ds dc u) ∈ news) (hdc : (dc, oC) ∈ news)
    (hoC : oC.IsDictOf (PySem.strKind prog w) ckvs) (lo2 : (dc == sysModules) = false) (hz : ckvs.length ≤ 2)
    (hC : CntIs ckvs sp kb ob z o c) (hkb : (kb, ob) ∈ news) (hdp : dp + 3 < recursionLimit)
    (hret : ∀ (q : Addr) (a1 a2 a3 : Tok) (h' : Heap) (tk' : Nat), Born q kb news → Fr h₀ L h' m → News h₀ L h' ((q, tup3 z o c a1 a2 a3) :: news) → Q (.ref q) { s with heap := h', toks := tk' }) :
    wpAny (model prog w) (ktrTop dp un gd cn cs L a ccd cl outer) (call (.ref 61) [.ref x, .str sp us]) Q E s := by
  have hC' : CntAt news ckvs sp z o c := by
    rcases hC with ⟨h, r1, r2, r3, _⟩ | ⟨h, b1, b2, b3, rfl⟩
    · exact .inl ⟨h, r1, r2, r3⟩
    · exact .inr ⟨_, _, _, _, h, hkb⟩
  refine counts_at B F X N T hk hx hdx hdc hoC lo2 hC' hz (by omega) fun q a1 a2 a3 h' tk' hb _ F' N' => hret q a1 a2 a3 h' tk' ?_ F' N'
  rcases hb with hb | hb
  · exact .inr hb
  · rcases hC with ⟨h, _⟩ | ⟨h, _⟩
    · rw [h] at hb; cases hb
    · rw [h] at hb; cases hb; exact .inl rfl
/-- sent_in -/
theorem sent_any {x dx ds dc t : Addr} {trials td : Int} {st sp : Str} {v2 v3 us : Tok} {u : ETok} {oS : Obj} {kvs : List (Str × Value)} {news : List (Addr × Obj)}
    (B : Below A₀ base outer h₀) (F : Fr h₀ L s.heap m) (X : (hd.heap_39 w.params).In h₀) (N : News h₀ L s.heap news) (T : Top p loose mean mg mb h₀) (hk : cs.kind = .function)
    (hx : (x, instObj 85 dx) ∈ news) (hdx : (dx, ecn w.params trials st v2 td v3 ds dc u) ∈ news) (hds : (ds, oS) ∈ news)
    (hoS : oS.IsDictOf (PySem.strKind prog w) kvs) (lo : (ds == sysModules) = false)
    (hv : valueAt kvs sp = some (.ref t)) (hdp : dp + 3 < recursionLimit)
    (hret : ∀ (h' : Heap) (tk' : Nat), Fr h₀ L h' m → News h₀ L h' news → Q (.ref t) { s with heap := h', toks := tk' }) :
    wpAny (model prog w) (ktrTop dp un gd cn cs L a ccd cl outer) (call (.ref 54) [.ref x, .str sp us]) Q E s := sent_at B F X N T hk hx hdx hds hoS lo hv (by omega) fun h' tk' _ F' N' => hret h' tk' F' N'
theorem cntIs_nil {sp : Str} {kb : Addr} {ob : Obj} (h : ∃ xs ep, ob.data = .seq xs ep) : CntIs [] sp kb ob 0 0 0 := .inl ⟨rfl, rfl, rfl, rfl, h⟩
theorem cntIs_t {sp : Str} {kb : Addr} {a b : Int} {u v : Tok} : CntIs [] sp kb (tup2 a b u v) 0 0 0 := .inl ⟨rfl, rfl, rfl, rfl, _, _, rfl⟩
theorem cvIs_none {k : Addr} {vs : Array Value} {n : Nat} : CvIs .none k (listOf vs n) none := ⟨rfl, _, _, rfl⟩
theorem CvIs.way {v : Value} {kc : Addr} {oc : Obj} {k : Option C3} (h : CvIs v kc oc k) : (v = .none ∧ k = none) ∨ (v = .ref kc ∧ ∃ q, k = some q) := by
  cases k with
  | none => exact .inl ⟨h.1, rfl⟩
  | some q => exact .inr ⟨h.1, q, rfl⟩
theorem is_none {A : Around} {v : Value} {kc : Addr} {oc : Obj} {k : Option C3} (h : CvIs v kc oc k) (h1 : v = .none → Q (.bool true) s) (h2 : v = .ref kc → Q (.bool false) s) :
    wpAny (model prog w) A (compareOp .Is v .none) Q E s := by
  rcases h.way with ⟨e, _⟩ | ⟨e, _⟩
  · have z := h1 e
    subst e
    exact wpAny_is_self rfl z
  · have z := h2 e
    subst e
    exact wpAny_is_other rfl (by intro x; cases x) z
def lastK (kk k : Option C3) : Option C3 := match k with
  | none => kk
  | some q => some q
theorem last_join {A : Around} {T : Sem Value} {vl cv : Value} {kl kc : Addr} {ol oc : Obj} {kk k : Option C3} {news : List (Addr × Obj)} (F : Fr h₀ L s.heap m) (hm : m (Str.ofString "counts") = some cv) (hml : m (Str.ofString "last") = some vl)
    (hl : CvIs vl kl ol kk) (hc : CvIs cv kc oc k) (ml : (kl, ol) ∈ news) (mc : (kc, oc) ∈ news) (N : News h₀ L s.heap news)
    (h : wpAny (model prog w) A T (fun v s' => ((cv = .none ∧ v = vl) ∨ ((∃ r, cv = .ref r) ∧ v = cv)) ∧ ∃ tk, s' = { s with toks := tk }) E s)
    (hQ : ∀ (v : Value) (k' : Addr) (o' : Obj) (tk : Nat), CvIs v k' o' (lastK kk k) → Either k' kl kc → News h₀ L s.heap ((k', o') :: news) → Q v { s with toks := tk }) : wpAny (model prog w) A T Q E s := by
  refine wpAny_mono h ?_ (fun _ _ e => e)
  rintro v s' ⟨hv, tk, rfl⟩
  rcases hv with ⟨e, rfl⟩ | ⟨⟨r, e⟩, rfl⟩
  · rcases hc.way with ⟨_, rfl⟩ | ⟨e', _⟩
    · exact hQ _ kl ol tk hl (.inl rfl) (List.forall_mem_cons.mpr ⟨N _ ml, N⟩)
    · rw [e] at e'; cases e'
  · rcases hc.way with ⟨e', _⟩ | ⟨_, q, rfl⟩
    · rw [e] at e'; cases e'
    · exact hQ _ kc oc tk hc (.inr rfl) (List.forall_mem_cons.mpr ⟨N _ mc, N⟩)
/-- two acknowledgements and the same at once -/
theorem acked_chain {st st1 st2 st3 : Str} {z1 o1 c1 z2 o2 c2 z3 o3 c3 sz so : Int} {k1 k2 : Option C3} {m1 m2 m3 : List Int}
    (h1 : Acked st 0 0 0 k1 (m1.count 2 : Int) (m1.count 1 : Int) sz so st1 z1 o1 c1) (h2 : Acked st1 z1 o1 c1 k2 (m2.count 2 : Int) (m2.count 1 : Int) sz so st2 z2 o2 c2) (hf : st2 ≠ failedS) (hm : m3 = m1 ++ m2)
    (h3 : Acked st 0 0 0 (lastK (lastK none k1) k2) (m3.count 2 : Int) (m3.count 1 : Int) sz so st3 z3 o3 c3) : st3 = st2 ∧ z3 = z2 ∧ o3 = o2 ∧ c3 = c2 := by
  subst hm
  have e2 : ((m1 ++ m2).count (2 : Int) : Int) = (m1.count 2 : Int) + (m2.count 2 : Int) := by rw [List.count_append]; omega
  have e1 : ((m1 ++ m2).count (1 : Int) : Int) = (m1.count 1 : Int) + (m2.count 1 : Int) := by rw [List.count_append]; omega
  rw [e2, e1] at h3
  have p1 : (0 : Int) ≤ (m1.count (2 : Int) : Int) := by omega
  have p2 : (0 : Int) ≤ (m1.count (1 : Int) : Int) := by omega
  have p3 : (0 : Int) ≤ (m2.count (2 : Int) : Int) := by omega
  have p4 : (0 : Int) ≤ (m2.count (1 : Int) : Int) := by omega
  generalize (m1.count (2 : Int) : Int) = a1 at *
  generalize (m1.count (1 : Int) : Int) = b1 at *
  generalize (m2.count (2 : Int) : Int) = a2 at *
  generalize (m2.count (1 : Int) : Int) = b2 at *
  rcases h2 with ⟨_, e, _⟩ | ⟨n1, h2⟩
  · exact absurd e hf
  rcases h1 with ⟨_, e, _⟩ | ⟨n0, h1⟩
  · exact absurd e n1
  rcases h3 with ⟨e, _⟩ | ⟨_, h3⟩
  · exact absurd e n0
  cases k1 with
  | none =>
    obtain ⟨rfl, rfl, rfl, h1⟩ := h1
    rcases h1 with ⟨y1, rfl⟩ | ⟨_, e⟩
    · cases k2 with
      | none =>
        obtain ⟨rfl, rfl, rfl, h2⟩ := h2
        obtain ⟨rfl, rfl, rfl, h3⟩ := h3
        rcases h2 with ⟨y2, rfl⟩ | ⟨_, e⟩
        · rcases h3 with ⟨y3, rfl⟩ | ⟨y3, _⟩
          · exact ⟨rfl, rfl, rfl, rfl⟩
          · omega
        · exact absurd e hf
      | some q =>
        rcases h2 with ⟨f, rfl, rfl, rfl, rfl⟩ | ⟨_, e, _⟩
        · rcases h3 with ⟨f', rfl, rfl, rfl, rfl⟩ | ⟨f', _⟩
          · have e : a1 + a2 + (b1 + b2) = a2 + b2 := by omega
            rw [e]; exact ⟨rfl, rfl, rfl, rfl⟩
          · refine absurd ?_ f'
            clear f'
            simp only [Fits] at *
            refine ⟨?_, ?_, ?_, ?_, ?_, ?_, ?_, ?_, ?_⟩ <;> omega
        · exact absurd e hf
    · exact absurd e n1
  | some q1 =>
    rcases h1 with ⟨f1, rfl, rfl, rfl, rfl⟩ | ⟨_, e, _⟩
    · cases k2 with
      | none =>
        obtain ⟨rfl, rfl, rfl, h2⟩ := h2
        rcases h2 with ⟨y2, rfl⟩ | ⟨_, e⟩
        · rcases h3 with ⟨f', rfl, rfl, rfl, rfl⟩ | ⟨f', _⟩
          · have e : a1 + a2 + (b1 + b2) = a1 + b1 := by omega
            rw [e]; exact ⟨rfl, rfl, rfl, rfl⟩
          · refine absurd ?_ f'
            clear f'
            simp only [Fits] at *
            refine ⟨?_, ?_, ?_, ?_, ?_, ?_, ?_, ?_, ?_⟩ <;> omega
        · exact absurd e hf
      | some q =>
        rcases h2 with ⟨f, rfl, rfl, rfl, rfl⟩ | ⟨_, e, _⟩
        · rcases h3 with ⟨f', rfl, rfl, rfl, rfl⟩ | ⟨f', _⟩
          · refine ⟨?_, rfl, rfl, rfl⟩
            unfold ackSt
            by_cases h1 : 0 < a1 + b1 <;> by_cases h2 : 0 < a2 + b2
            · rw [if_pos h2, if_pos (by omega)]
            · rw [if_neg h2, if_pos h1, if_pos (by omega)]
            · rw [if_pos h2, if_pos (by omega)]
            · rw [if_neg h2, if_neg h1, if_neg (by omega)]
          · refine absurd ?_ f'
            clear f'
            simp only [Fits] at *
            refine ⟨?_, ?_, ?_, ?_, ?_, ?_, ?_, ?_, ?_⟩ <;> omega
        · exact absurd e hf
    · exact absurd e n1
theorem acked_elim {P : Prop} {st st1 st2 st3 : Str} {z1 o1 c1 z2 o2 c2 z3 o3 c3 sz so : Int} {k1 k2 : Option C3} {m1 m2 m3 : List Int}
    (h3 : Acked st 0 0 0 (lastK (lastK none k1) k2) (m3.count 2 : Int) (m3.count 1 : Int) sz so st3 z3 o3 c3) (h2 : Acked st1 z1 o1 c1 k2 (m2.count 2 : Int) (m2.count 1 : Int) sz so st2 z2 o2 c2) (h1 : Acked st 0 0 0 k1 (m1.count 2 : Int) (m1.count 1 : Int) sz so st1 z1 o1 c1)
    (hf : (st2 == failedS) = false) (hm : m3 = m1 ++ m2) (k : st3 = st2 → z3 = z2 → o3 = o2 → c3 = c2 → P) : P := by
  obtain ⟨e1, e2, e3, e4⟩ := acked_chain h1 h2 (fun e => by rw [e] at hf; revert hf; decide) hm h3
  exact k e1 e2 e3 e4
theorem beq_false_of {a b : Str} (h : ¬ (a == b) = true) : (a == b) = false := by simpa using h
theorem cntAt_of {news : List (Addr × Obj)} {ckvs : List (Str × Value)} {sp q : Str} {kb : Addr} {ob : Obj} {z o c : Int} (h : CntIs ckvs sp kb ob z o c) (hm : (kb, ob) ∈ news) (hn : ∀ q, q ≠ sp → valueAt ckvs q = none) : CntAt news ckvs q (atSp sp q z) (atSp sp q o) (atSp sp q c) := by
  by_cases e : sp = q
  · subst e
    rcases h with ⟨hv, rfl, rfl, rfl, _⟩ | ⟨hv, a1, a2, a3, rfl⟩
    · exact .inl ⟨hv, by simp [atSp], by simp [atSp], by simp [atSp]⟩
    · exact .inr ⟨kb, a1, a2, a3, hv, by simpa [atSp] using hm⟩
  · refine .inl ⟨hn q (fun e' => e e'.symm), ?_, ?_, ?_⟩ <;> simp [atSp, e]
theorem cntAt_is {news : List (Addr × Obj)} {ckvs : List (Str × Value)} {sp : Str} {kb : Addr} {ob : Obj} {z o c : Int} (h : CntIs ckvs sp kb ob z o c) (hm : (kb, ob) ∈ news) : CntAt news ckvs sp z o c := by
  rcases h with ⟨hv, r1, r2, r3, _⟩ | ⟨hv, a1, a2, a3, rfl⟩
  · exact .inl ⟨hv, r1, r2, r3⟩
  · exact .inr ⟨kb, a1, a2, a3, hv, hm⟩

end
section
variable {prog : Program} {w : World} {p : Program} {loose : List Str} {mean : ExcName → Option Value} {mg mb : Str → Option Value}
  {dp un : Nat} {gd : Option (List Code)} {cn : Str} {cs : Scope} {a : Addr} {ccd : Value} {cl : List (Str × Addr)} {outer : List Env} {A₀ : Around} {base h₀ : Heap} {L : Addr} {m : Str → Option Value} {s : Shared} {Q E : Value → Shared → Prop}
theorem strOk_failed : PyData.strOk failedS = true := by decide +kernel
theorem strOk_stOf {trials td : Int} : PyData.strOk (stOf trials td) = true := by unfold stOf; split <;> decide +kernel
theorem strOk_ackSt {st : Str} {n : Int} (h : PyData.strOk st = true) : PyData.strOk (ackSt st n) = true := by
  unfold ackSt
  split
  · decide +kernel
  · exact h
theorem strOk_acked {st st' : Str} {z o c z' o' c' n2 n1 sz so : Int} {k : Option C3} (h : Acked st z o c k n2 n1 sz so st' z' o' c') (hs : PyData.strOk st = true) : PyData.strOk st' = true := by
  rcases h with ⟨_, rfl, _⟩ | ⟨_, h⟩
  · exact strOk_failed
  · cases k with
    | none =>
      obtain ⟨_, _, _, h⟩ := h
      rcases h with ⟨_, rfl⟩ | ⟨_, rfl⟩
      · exact hs
      · exact strOk_failed
    | some q =>
      rcases h with ⟨_, rfl, _⟩ | ⟨_, rfl, _⟩
      · exact strOk_ackSt hs
      · exact strOk_failed
def allD (st : Str) (z1 o1 c1 z2 o2 c2 : Int) : PyData := .tuple [.str st, .tuple [.int z1, .int o1, .int c1], .tuple [.int z2, .int o2, .int c2]]
theorem reads_tup3 {h : Heap} {d : Addr} {news : List (Addr × Obj)} {a b c : Int} {u v x : Tok} (N : News h₀ L h news) (m : (d, tup3 a b c u v x) ∈ news) : Reads h (.ref d) (.tuple [.int a, .int b, .int c]) [] :=
  reads_tuple_at (N _ m).1 rfl rfl (readsAll_cons_val (Reads.int _ _) (readsAll_cons_val (Reads.int _ _) (readsAll_cons_val (Reads.int _ _) ReadsAll.nil)))
theorem reads_all {h : Heap} {R p1 p2 : Addr} {news : List (Addr × Obj)} {st : Str} {v a1 a2 a3 a4 a5 a6 : Tok} {z1 o1 c1 z2 o2 c2 : Int} (N : News h₀ L h news) (mR : (R, tupAll st p1 p2 v) ∈ news) (m1 : (p1, tup3 z1 o1 c1 a1 a2 a3) ∈ news) (m2 : (p2, tup3 z2 o2 c2 a4 a5 a6) ∈ news) :
    Reads h (.ref R) (allD st z1 o1 c1 z2 o2 c2) [] :=
  reads_tuple_at (N _ mR).1 rfl rfl (readsAll_cons_val (Reads.str _ _) (readsAll_cons_val (reads_tup3 N m1) (readsAll_cons_val (reads_tup3 N m2) ReadsAll.nil)))
theorem eqv_allD (st : Str) (z1 o1 c1 z2 o2 c2 : Int) : PyData.eqv (allD st z1 o1 c1 z2 o2 c2) (allD st z1 o1 c1 z2 o2 c2) = true := by
  simp [allD, PyData.eqv, PyData.eqvAll]
theorem shaped_allD {st : Str} (hs : PyData.strOk st = true) (z1 o1 c1 z2 o2 c2 : Int) : PySem.SeqAt.shaped (allD st z1 o1 c1 z2 o2 c2) = true := by
  simp [allD, PySem.SeqAt.shaped, PyData.canLay0, PyData.canLayAll0, PyData.depth, PyData.depthAll, hs]
theorem all_eq_same {A : Around} {R p1 p2 R' q1 q2 : Addr} {news : List (Addr × Obj)} {st : Str} {v a1 a2 a3 a4 a5 a6 v' b1 b2 b3 b4 b5 b6 : Tok} {z1 o1 c1 z2 o2 c2 : Int} (N : News h₀ L s.heap news) (mR : (R, tupAll st p1 p2 v) ∈ news) (m1 : (p1, tup3 z1 o1 c1 a1 a2 a3) ∈ news) (m2 : (p2, tup3 z2 o2 c2 a4 a5 a6) ∈ news)
    (mR' : (R', tupAll st q1 q2 v') ∈ news) (m1' : (q1, tup3 z1 o1 c1 b1 b2 b3) ∈ news) (m2' : (q2, tup3 z2 o2 c2 b4 b5 b6) ∈ news) (hs : PyData.strOk st = true) (hu : A.units + 64 < cLine) (h : Q (.bool true) s) : wpAny (model prog w) A (compareOp .Eq (.ref R) (.ref R')) Q E s :=
  eq_dataH (reads_all N mR m1 m2) (reads_all N mR' m1' m2') (shaped_allD hs _ _ _ _ _ _) (shaped_allD hs _ _ _ _ _ _) hu (by rw [eqv_allD]; exact h)
theorem all_ne_same {A : Around} {R p1 p2 R' q1 q2 : Addr} {news : List (Addr × Obj)} {st : Str} {v a1 a2 a3 a4 a5 a6 v' b1 b2 b3 b4 b5 b6 : Tok} {z1 o1 c1 z2 o2 c2 : Int} (N : News h₀ L s.heap news) (mR : (R, tupAll st p1 p2 v) ∈ news) (m1 : (p1, tup3 z1 o1 c1 a1 a2 a3) ∈ news) (m2 : (p2, tup3 z2 o2 c2 a4 a5 a6) ∈ news)
    (mR' : (R', tupAll st q1 q2 v') ∈ news) (m1' : (q1, tup3 z1 o1 c1 b1 b2 b3) ∈ news) (m2' : (q2, tup3 z2 o2 c2 b4 b5 b6) ∈ news) (hs : PyData.strOk st = true) (hu : A.units + 64 < cLine) (h : Q (.bool false) s) : wpAny (model prog w) A (compareOp .NotEq (.ref R) (.ref R')) Q E s :=
  ne_dataH (reads_all N mR m1 m2) (reads_all N mR' m1' m2') (shaped_allD hs _ _ _ _ _ _) (shaped_allD hs _ _ _ _ _ _) hu (by rw [eqv_allD]; exact h)
theorem all_eq_same2 {A : Around} {R p1 p2 R' q1 q2 : Addr} {news : List (Addr × Obj)} {sp sa sb st st' : Str} {v a1 a2 a3 a4 a5 a6 v' b1 b2 b3 b4 b5 b6 : Tok} {z o c z' o' c' : Int} (N : News h₀ L s.heap news) (mR : (R, tupAll st p1 p2 v) ∈ news) (m1 : (p1, tup3 (atSp sp sa z) (atSp sp sa o) (atSp sp sa c) a1 a2 a3) ∈ news) (m2 : (p2, tup3 (atSp sp sb z) (atSp sp sb o) (atSp sp sb c) a4 a5 a6) ∈ news)
    (mR' : (R', tupAll st' q1 q2 v') ∈ news) (m1' : (q1, tup3 (atSp sp sa z') (atSp sp sa o') (atSp sp sa c') b1 b2 b3) ∈ news) (m2' : (q2, tup3 (atSp sp sb z') (atSp sp sb o') (atSp sp sb c') b4 b5 b6) ∈ news) (e1 : st = st') (e2 : z = z') (e3 : o = o') (e4 : c = c') (hs : PyData.strOk st = true) (hu : A.units + 64 < cLine) (h : Q (.bool true) s) : wpAny (model prog w) A (compareOp .Eq (.ref R) (.ref R')) Q E s := by
  subst e1 e2 e3 e4
  exact all_eq_same N mR m1 m2 mR' m1' m2' hs hu h
theorem all_ne_same2 {A : Around} {R p1 p2 R' q1 q2 : Addr} {news : List (Addr × Obj)} {sp sa sb st st' : Str} {v a1 a2 a3 a4 a5 a6 v' b1 b2 b3 b4 b5 b6 : Tok} {z o c z' o' c' : Int} (N : News h₀ L s.heap news) (mR : (R, tupAll st p1 p2 v) ∈ news) (m1 : (p1, tup3 (atSp sp sa z) (atSp sp sa o) (atSp sp sa c) a1 a2 a3) ∈ news) (m2 : (p2, tup3 (atSp sp sb z) (atSp sp sb o) (atSp sp sb c) a4 a5 a6) ∈ news)
    (mR' : (R', tupAll st' q1 q2 v') ∈ news) (m1' : (q1, tup3 (atSp sp sa z') (atSp sp sa o') (atSp sp sa c') b1 b2 b3) ∈ news) (m2' : (q2, tup3 (atSp sp sb z') (atSp sp sb o') (atSp sp sb c') b4 b5 b6) ∈ news) (e1 : st = st') (e2 : z = z') (e3 : o = o') (e4 : c = c') (hs : PyData.strOk st = true) (hu : A.units + 64 < cLine) (h : Q (.bool false) s) : wpAny (model prog w) A (compareOp .NotEq (.ref R) (.ref R')) Q E s := by
  subst e1 e2 e3 e4
  exact all_ne_same N mR m1 m2 mR' m1' m2' hs hu h

end
section
variable {prog : Program} {w : World} {p : Program} {loose : List Str} {mean : ExcName → Option Value} {mg mb : Str → Option Value}
  {dp un : Nat} {gd : Option (List Code)} {cn : Str} {cs : Scope} {a : Addr} {ccd : Value} {cl : List (Str × Addr)} {outer : List Env} {A₀ : Around} {base h₀ : Heap} {L : Addr} {m : Str → Option Value} {s : Shared} {Q E : Value → Shared → Prop}
abbrev stepObj (cv : Value) (lm : Addr) : Obj := { cls := .type "tuple", data := .seq [cv, .ref lm].toArray }
/-- _law_step, seen from a whole ledger, whatever it tells -/
theorem lstep_any {b q tb : Addr} {pos : Int} {t : Tok} {vq : List Value} {nq : List Int} {nb nl : Nat} {zb ob cb : Int} {u1 u2 u3 : Tok} {news : List (Addr × Obj)} {g : Obj → List (Addr × Obj)}
    (B : Below A₀ base outer h₀) (F : Fr h₀ L s.heap m) (X : (hd.heap_39 w.params).In h₀) (N : News h₀ L s.heap news) (T : Top p loose mean mg mb h₀) (hk : cs.kind = .function)
    (U : UpdF b (listOf [.ref q, .int pos t].toArray nb) news g) (hq : (q, listOf vq.toArray nl) ∈ news) (htb : (tb, tup3 zb ob cb u1 u2 u3) ∈ news)
    (hI : IntsAre vq nq) (hlen : nq.length ≤ 63) (hbq : Dif b q) (hdp : dp + 3 < recursionLimit) (hp0 : 0 ≤ pos) (hp1 : pos ≤ 900)
    (hret : ∀ (R lm kc : Addr) (oc : Obj) (cv : Value) (k : Option C3) (vs : List Value) (ns : List Int) (pos' : Int) (t' : Tok) (nb' : Nat) (h' : Heap) (tk' : Nat), IntsAre vs ns → ns.length ≤ 3 → pos ≤ pos' → pos' ≤ pos + 9 → CvIs cv kc oc k → AllNe R news → AllNe lm news → AllNe kc news →
      Fr h₀ L h' m → News h₀ L h' ((R, stepObj cv lm) :: (lm, listOf vs.toArray 0) :: (kc, oc) :: g (listOf [.ref q, .int pos' t'].toArray nb')) → Q (.ref R) { s with heap := h', toks := tk' }) :
    wpAny (model prog w) (ktrTop dp un gd cn cs L a ccd cl outer) (call (.ref 101) [.ref b, .ref tb]) Q E s := by
  have hb := (updF_rest U).1
  have hbt : Dif b tb := by
    intro e
    have e' : b = tb := e
    subst e'
    have z := (N _ hb).1
    rw [(N _ htb).1] at z
    have z2 := congrArg Obj.cls (Option.some.inj z)
    injection z2 with z3
    revert z3
    decide
  refine step_core B F X (news_sub N (List.forall_mem_cons.mpr ⟨hb, List.forall_mem_cons.mpr ⟨hq, List.forall_mem_cons.mpr ⟨htb, List.forall_mem_nil _⟩⟩⟩)) T hk hI hlen hbq hbt hdp hp0 hp1 ?_ ?_
  · intro R lm vs ns pos' t' nb' h' tk' f1 f2 f3 f4 f5 f6 f7 F' N' K
    have NG := one_turned N U (news_sub N' (fun p hp => .tail _ (.tail _ hp))) (.head _) K
    exact hret R lm lm _ .none none vs ns pos' t' nb' h' tk' f1 f2 f3 f4 ⟨rfl, _, _, rfl⟩ (allNe_of f5 N) (allNe_of f6 N) (allNe_of f6 N) F'
      (List.forall_mem_cons.mpr ⟨N' _ (.head _), List.forall_mem_cons.mpr ⟨N' _ (.tail _ (.head _)), List.forall_mem_cons.mpr ⟨N' _ (.tail _ (.head _)), NG⟩⟩⟩)
  · intro R lm kc vs ns zc oc cc a1 a2 a3 pos' t' nb' h' tk' f1 f2 f3 f4 f5 f6 f7 _ _ _ F' N' K
    have NG := one_turned N U (news_sub N' (fun p hp => .tail _ (.tail _ (.tail _ hp)))) (.head _) K
    exact hret R lm kc _ (.ref kc) (some (zc, oc, cc)) vs ns pos' t' nb' h' tk' f1 f2 f3 f4 ⟨rfl, _, _, _, rfl⟩ (allNe_of f5 N) (allNe_of f6 N) (allNe_of f7 N) F'
      (List.forall_mem_cons.mpr ⟨N' _ (.head _), List.forall_mem_cons.mpr ⟨N' _ (.tail _ (.head _)), List.forall_mem_cons.mpr ⟨N' _ (.tail _ (.tail _ (.head _))), NG⟩⟩⟩)

end
section
local macro_rules | `(tactic| walk_at "execs cons") => `(tactic| (k_here; (with_reducible refine gen_toks ?_); intro tk; (with_reducible refine wpAny_execs_cons ?_); (try dsimp only); (with_reducible rename News _ _ _ _ => kN); refine foldNews kN ?_; clear kN; intro n9 kN; (with_reducible rename Fr _ _ _ _ => kF); refine foldFr kF ?_; clear kF; intro m9 kF; (try k_fold)))
local macro_rules | `(tactic| k_mem) => `(tactic| with_reducible (first | exact mem0 rfl | exact mem1 rfl | exact mem2 rfl | exact mem3 rfl | exact mem4 rfl | exact mem5 rfl | exact mem6 rfl | exact mem7 rfl | (refine skip8 rfl ?_; k_mem)))
section
variable {prog : Program} {w : World} {p : Program} {loose : List Str} {mean : ExcName → Option Value} {mg mb : Str → Option Value}
  {dp un : Nat} {gd : Option (List Code)} {cn : Str} {cs : Scope} {a : Addr} {ccd : Value} {cl : List (Str × Addr)} {outer : List Env} {A₀ : Around} {base h₀ : Heap} {L : Addr} {m : Str → Option Value} {s : Shared} {Q E : Value → Shared → Prop}
local macro_rules | `(tactic| k_ne) => `(tactic| (refine neN ?_; (try dsimp only); first | exact Dif.out (by with_reducible assumption) | exact Dif.swap (by with_reducible assumption) | (apply Dif.newR; (with_reducible assumption); (focus walk_at "my in")) | (apply Dif.newL; (with_reducible assumption); (focus walk_at "my in")) | (apply Dif.either; (with_reducible assumption); (focus k_ne); (focus k_ne)) | (refine' Ne.symm (Dif.either ?nA ?nB ?nC); (case nA => with_reducible assumption); (case nB => k_ne); (case nC => k_ne)) | (apply Dif.born; (with_reducible assumption); (focus walk_at "my in"); (focus k_ne)) | (refine' Ne.symm (Dif.born ?nA ?nB ?nC); (case nA => with_reducible assumption); (case nB => walk_at "my in"); (case nC => k_ne)) | omega | (apply Dif.newL; (with_reducible assumption); (focus walk_at "my inp")) | (apply Dif.newR; (with_reducible assumption); (focus walk_at "my inp"))))
local macro_rules | `(tactic| k_lt $h:ident) => `(tactic| (replace $h := allNe_lt $h))
local macro_rules | `(tactic| k_all) => `(tactic| first | exact List.forall_mem_nil _ | (refine' List.forall_mem_cons.mpr ⟨?a, ?b⟩; (case a => k_ne); (case b => k_all)))




local macro_rules | `(tactic| walk_at "compareOp NotEq ref ref") => `(tactic| (k_here; (with_reducible show wpAny _ _ (compareOp CmpOp.NotEq (Value.ref _) (Value.ref _)) _ _ _); k_dflt (apply all_ne_same2; k_asm; (focus k_mem); (focus k_mem); (focus k_mem); (focus k_mem); (focus k_mem); (focus k_mem); (with_reducible assumption); (with_reducible assumption); (with_reducible assumption); (with_reducible assumption); (with_reducible assumption); (focus units_room)); (try dsimp only)))

local macro_rules | `(tactic| walk_at "my chain") => `(tactic| ((rename (∀ q : Str, q ≠ _ → valueAt _ q = valueAt _ q) => hqq); (first | (replace hqq := fun (q : Str) (h : q ≠ _) => (hqq q h).trans (show valueAt [] q = none from rfl)) | ((rename (∀ q : Str, q ≠ _ → valueAt _ q = none) => hqo); (replace hqq := fun (q : Str) (h : q ≠ _) => (hqq q h).trans (hqo q h)))); (try dsimp only at hqq); (try ((apply acked_elim; (with_reducible assumption); (with_reducible assumption); (with_reducible assumption); (focus first | with_reducible assumption | exact beq_false_of (by with_reducible assumption)); (focus simp)); intro e91 e92 e93 e94))))
local macro_rules | `(tactic| units_room) => `(tactic| ((simp only [units_in1, units_deeper, Around.mark_units]); (dsimp only [ktrTop]); (have hcL' := cLine_is); omega))
@[reducible] def stopsRight (n : Nat) : Prop := n = 82 ∨ n = 61 ∨ n = 54 ∨ n = 115 ∨ n = 108
local macro_rules | `(tactic| walk_at "newTuple") => `(tactic| refine stop ?_)
local macro_rules | `(tactic| walk_at "newList") => `(tactic| refine stop ?_)
local macro_rules | `(tactic| walk_at "FinE") => `(tactic| refine stop ?_)
local macro_rules | `(tactic| walk_at "call ref") => `(tactic| k_dflt (refine stopCall (P := stopsRight) (by decide) ?_))
local macro_rules | `(tactic| walk_at "compareOp Is") => `(tactic| refine stop ?_)
local macro_rules | `(tactic| walk_at "eval IfExp") => `(tactic| refine stop ?_)
local macro_rules | `(tactic| walk_at "eval ListComp") => `(tactic| refine stop ?_)
local macro_rules | `(tactic| walk_at "call type:zip") => `(tactic| refine stop ?_)
local macro_rules | `(tactic| walk_at "compareOp Eq ref ref") => `(tactic| refine stop ?_)
theorem right_core {sd l1 l2 sl s1 s2 lm1 lm2 kc1 kc2 : Addr} {trials : Int} {tt us : Tok} {sp : Str} {os oc1 oc2 : Obj} {kvs : List (Str × Value)} {vs1 vs2 ws1 ws2 : List Value} {ns1 ns2 ns ms1 ms2 : List Int} {n1 n2 n3 : Nat} {cv1 cv2 : Value} {k1 k2 : Option C3}
    (B : Below A₀ base outer h₀) (F : Fr h₀ L s.heap m) (X : (hd.heap_39 w.params).In h₀) (N : News h₀ L s.heap [(sd, os), (l1, listOf vs1.toArray n1), (l2, listOf vs2.toArray n2), (sl, listOf [.ref s1, .ref s2].toArray n3), (s1, stepObj cv1 lm1), (s2, stepObj cv2 lm2), (lm1, listOf ws1.toArray 0), (lm2, listOf ws2.toArray 0), (kc1, oc1), (kc2, oc2)]) (T : Top p loose mean mg mb h₀) (hk : cs.kind = .function)
    (hos : os.IsDictOf (PySem.strKind prog w) kvs) (lo : (sd == sysModules) = false) (hv1 : valueAt kvs (Str.ofString "one") = some (.ref l1)) (hv2 : valueAt kvs (Str.ofString "two") = some (.ref l2))
    (hI1 : IntsAre vs1 ns1) (hI2 : IntsAre vs2 ns2) (hJ1 : IntsAre ws1 ms1) (hJ2 : IntsAre ws2 ms2) (hn1 : ns1 ≠ []) (hn2 : ns2 ≠ []) (hm1 : ms1.length ≤ 3) (hm2 : ms2.length ≤ 3) (hsp : sp = Str.ofString "one" ∧ ns = ns1 ∨ sp = Str.ofString "two" ∧ ns = ns2)
    (hcv1 : CvIs cv1 kc1 oc1 k1) (hcv2 : CvIs cv2 kc2 oc2 k2)
    (hdp : dp + 8 < recursionLimit) (hun : un + 200 < cLine) (ht0 : 1 ≤ trials)
    (hret : ∀ (h' : Heap) (tk' : Nat), Fr h₀ L h' m → Kept [] s.heap h' → Q (.bool true) { s with heap := h', toks := tk' }) :
    wpAny (model prog w) (ktrTop dp un gd cn cs L a ccd cl outer) (call (.ref 120) [.ref sd, .int trials tt, .str sp us, .ref sl]) Q E s := by
  have z1 := cntL_nonneg 2 ns
  have z2 := cntL_nonneg 1 ns
  have hl0 : CvIs .none lm1 (listOf ws1.toArray 0) none := ⟨rfl, _, _, rfl⟩
  refine wpAny_call ?_
  k_dflt cell_enter
  repeat' (first | ((with_reducible refine go ?_); (first | ((k_here; (with_reducible show wpAny _ _ (compareOp CmpOp.Eq (Value.ref _) (Value.ref _)) _ _ _); k_dflt (apply all_eq_same2; k_asm; (focus k_mem); (focus k_mem); (focus k_mem); (focus k_mem); (focus k_mem); (focus k_mem); (with_reducible assumption); (with_reducible assumption); (with_reducible assumption); (with_reducible assumption); (with_reducible assumption); (focus units_room)); (try dsimp only))) | ((k_here; (with_reducible show wpAny _ _ (call (Value.ref 115) [Value.ref _]) _ _ _); k_dflt (apply all_spec (u := ⟨_, _, _, _, _, _, _, _⟩); walk_at "my six"; (focus k_mem); (focus k_mem); (focus k_mem); k_asm; k_asm; walk_at "my le"; (focus exact cntAt_of (by with_reducible assumption) (by k_mem) (by with_reducible assumption)); (focus exact cntAt_of (by with_reducible assumption) (by k_mem) (by with_reducible assumption)); (focus ktr_room)); intro R9 p19 p29 v9 a19 a29 a39 a49 a59 a69 h9 tk9 a9 F9 N9; clear a9; (try dsimp only))) | ((k_here; (with_reducible show wpAny _ _ (call (Value.type "zip") [Value.ref _, Value.ref _]) _ _ _); k_dflt (apply zle; rfl; decide; rfl; rfl; rfl; decide; k_asm; k_asm; (focus k_mem); (focus k_mem); walk_at "my le"; walk_at "my le"; walk_at "my le"); (k_dflt focus (intro C9 oC9 m9 h9 tk9 x9 y9 t9 t99 E9 Qt9 Qe9 le9 g19 g29 hC9 F9 N9 hq9; (try dsimp only); (repeat' (first | ((with_reducible refine go ?_); (first | ((k_here; (with_reducible show wpAny _ _ (compareOp CmpOp.Eq (Value.ref _) (Value.ref _)) _ _ _); k_dflt (apply all_eq_same2; k_asm; (focus k_mem); (focus k_mem); (focus k_mem); (focus k_mem); (focus k_mem); (focus k_mem); (with_reducible assumption); (with_reducible assumption); (with_reducible assumption); (with_reducible assumption); (with_reducible assumption); (focus units_room)); (try dsimp only))) | ((k_here; (with_reducible show wpAny _ _ (call (Value.ref 115) [Value.ref _]) _ _ _); k_dflt (apply all_spec (u := ⟨_, _, _, _, _, _, _, _⟩); walk_at "my six"; (focus k_mem); (focus k_mem); (focus k_mem); k_asm; k_asm; walk_at "my le"; (focus exact cntAt_of (by with_reducible assumption) (by k_mem) (by with_reducible assumption)); (focus exact cntAt_of (by with_reducible assumption) (by k_mem) (by with_reducible assumption)); (focus ktr_room)); intro R9 p19 p29 v9 a19 a29 a39 a49 a59 a69 h9 tk9 a9 F9 N9; clear a9; (try dsimp only))) | ((k_here; (with_reducible show wpAny _ _ (call (Value.type "zip") [Value.ref _, Value.ref _]) _ _ _); k_dflt (apply zle; rfl; decide; rfl; rfl; rfl; decide; k_asm; k_asm; (focus k_mem); (focus k_mem); walk_at "my le"; walk_at "my le"; walk_at "my le"); (k_dflt focus (intro C9 oC9 m9 h9 tk9 x9 y9 t9 t99 E9 Qt9 Qe9 le9 g19 g29 hC9 F9 N9 hq9; (try dsimp only); k_steps; (all_goals (first | (exfalso; omega) | exact hq9 _ _ (by assumption) (fun _ _ ek _ => ek))))); intro D9 h9 tk9 a9 F9 N9; (try dsimp only at N9); (try dsimp only))) | ((k_here; (with_reducible show wpAny _ _ (eval (Expr.ListComp _ [⟨Expr.Tuple _ _ _, _, _, _⟩] _ _) _) _ _ _); k_dflt (refine lc_tuple (by intro _; with_unfolding_all rfl) (by with_unfolding_all rfl) (by rfl) (by decide) ?_))) | ((k_here; (with_reducible show wpAny _ _ (call (Value.ref 108) [Value.ref _, Value.int _ _]) _ _ _); k_dflt (apply beg_specG; walk_at "my six"; (focus k_mem); k_asm; k_asm; (focus first | assumption | rfl); (focus first | assumption | rfl); (focus k_mem); (focus k_mem); (focus l_ints); (focus l_ints); assumption; assumption; assumption; (focus ktr_room); walk_at "my le"); intro x9 dx9 ds9 dc9 ta9 oS9 oC9 kvS9 v29 v39 a19 a29 u9 h9 tk9 f19 f29 f39 f49 f59 ap9 lo9 lo29 hS9 hv9 hc09 hC9 F9 N9; (simp only [Apart, NeAll, and_true, and_assoc] at ap9); (repeat (have hdf := And.left ap9; replace ap9 := And.right ap9)); (try dsimp only))) | ((k_here; (with_reducible show wpAny _ _ (eval (Expr.IfExp (Expr.Compare (Expr.Name _ _) _ _ _) (Expr.Name _ _) (Expr.Name _ _) _) _) _ _ _); k_dflt (refine' last_join ?FQ8 ?hmQ8 ?hmlQ8 ?hlQ8 ?hcQ8 ?mlQ8 ?mcQ8 ?NQ8 ?_ ?_; (case FQ8 => k_asm); (case NQ8 => k_asm); (case hmQ8 => exact rfl); (case hmlQ8 => exact rfl); (case hlQ8 => with_reducible assumption); (case hcQ8 => with_reducible assumption); (case mlQ8 => k_mem); (case mcQ8 => k_mem)); (k_dflt focus ((with_reducible refine IfExp_ ?_); k_steps; (all_goals (first | exact Or.inl ⟨by assumption, rfl⟩ | exact Or.inr ⟨⟨_, by assumption⟩, rfl⟩ | exact ⟨_, rfl⟩ | exact ⟨.inl ⟨by assumption, rfl⟩, _, rfl⟩ | exact ⟨.inr ⟨⟨_, by assumption⟩, rfl⟩, _, rfl⟩)))); intro v9 k9 o9 tk9 hv9 ei9 N9; (try dsimp only))) | ((k_here; (with_reducible show wpAny _ _ (compareOp CmpOp.Is _ Value.none) _ _ _); k_dflt (apply is_none; (with_reducible assumption)); (intro e9; (try dsimp only)); rotate_left; (intro e9; (try dsimp only)); rotate_right)) | ((k_here; (with_reducible show wpAny _ _ (call (Value.ref 54) [Value.ref _, Value.str _ _]) _ _ _); k_dflt (apply sent_any (u := ⟨_, _, _, _, _, _, _, _⟩); walk_at "my six"; (focus k_mem); (focus k_mem); (focus k_mem); k_asm; k_asm; (with_reducible assumption); (focus ktr_room)); intro h9 tk9 F9 N9; (try dsimp only))) | ((k_here; (with_reducible show wpAny _ _ (call (Value.ref 61) [Value.ref _, Value.str _ _]) _ _ _); k_dflt (apply counts_any (u := ⟨_, _, _, _, _, _, _, _⟩); walk_at "my six"; (focus k_mem); (focus k_mem); (focus k_mem); k_asm; k_asm; walk_at "my le"; (with_reducible assumption); (focus k_mem); (focus ktr_room)); intro p9 a19 a29 a39 h9 tk9 b9 F9 N9; (try dsimp only))) | ((k_here; (with_reducible show wpAny _ _ (call (Value.ref 82) [Value.ref _, Value.str _ _, _, _, Value.bool false]) _ _ _); k_dflt (apply ack_false; k_asm; k_asm; k_asm; k_asm; (first | exact rfl | assumption); (focus ktr_room)); intro tr9 h9 tk9 F9 K9; (have N9 := news_keep (by with_reducible assumption) K9); clear K9; (try dsimp only))) | ((k_here; (with_reducible show wpAny _ _ (call (Value.ref 82) [Value.ref _, Value.str _ _, _, Value.ref _, Value.bool true]) _ _ _); k_dflt (apply ack_any (u := ⟨_, _, _, _, _, _, _, _⟩); walk_at "my six"; (with_reducible assumption); (focus k_mem); (focus k_mem); (focus k_updF); (focus intro _; k_updF); (focus k_mem); k_asm; k_asm; k_asm; k_asm; (with_reducible assumption); (focus k_mem); (with_reducible assumption); (focus k_mem); (focus k_mem); walk_at "my le"; (focus l_ints); (focus walk_at "my dif"); (focus walk_at "my dif"); (focus walk_at "my dif"); (focus ktr_room); walk_at "my le"; walk_at "my le"; walk_at "my le"); intro st9 oC9 ob9 ck9 kb9 z9 o9 c9 r9 v9 tr9 h9 tk9 hA9 e19 e29 e39 e49 e59 e69 er9 ei9 hC9 hq9 hl9 hd9 hw9 F9 N9; clear hw9; (have hok9 := strOk_acked hA9 (by first | with_reducible assumption | exact strOk_stOf)); subst er9; (try dsimp only at N9); (try dsimp only at hl9); (try simp only [List.length_nil, Nat.zero_add] at hl9); (try walk_at "my chain"); (try dsimp only))) | (((unfold LCg.FinE); intro D' h' tk' F' N' o1'; (replace o1' := off1_dif o1'); (try simp only [List.nil_append, List.cons_append] at N'); (try dsimp only))) | ((k_here; k_dflt (apply newList_K; k_asm; k_asm; k_whole); intro l' h' F' N' l1; (replace l1 := allNe_lt l1); (try k_sweep))) | ((k_here; k_dflt (refine' kup_newTuple ?FQ0 ?NQ0 ?_ ?zQ0; (case FQ0 => k_asm); (case NQ0 => k_asm); (case zQ0 => kmk_size)); intro D' h' F' N' l1; (replace l1 := allNe_lt l1); (try k_sweep))))) | (k_unfold; (try dsimp only)) | (k_end; kc_close) | walk1 | (dsimp only; walk1) | (leave1; (try dsimp only)) | fail "no step")); (all_goals (first | (exfalso; omega) | exact hq9 _ _ (by assumption) (fun _ _ ek _ => ek))))); intro D9 h9 tk9 a9 F9 N9; (try dsimp only at N9); (try dsimp only))) | ((k_here; (with_reducible show wpAny _ _ (eval (Expr.ListComp _ [⟨Expr.Tuple _ _ _, _, _, _⟩] _ _) _) _ _ _); k_dflt (refine lc_tuple (by intro _; with_unfolding_all rfl) (by with_unfolding_all rfl) (by rfl) (by decide) ?_))) | ((k_here; (with_reducible show wpAny _ _ (call (Value.ref 108) [Value.ref _, Value.int _ _]) _ _ _); k_dflt (apply beg_specG; walk_at "my six"; (focus k_mem); k_asm; k_asm; (focus first | assumption | rfl); (focus first | assumption | rfl); (focus k_mem); (focus k_mem); (focus l_ints); (focus l_ints); assumption; assumption; assumption; (focus ktr_room); walk_at "my le"); intro x9 dx9 ds9 dc9 ta9 oS9 oC9 kvS9 v29 v39 a19 a29 u9 h9 tk9 f19 f29 f39 f49 f59 ap9 lo9 lo29 hS9 hv9 hc09 hC9 F9 N9; (simp only [Apart, NeAll, and_true, and_assoc] at ap9); (repeat (have hdf := And.left ap9; replace ap9 := And.right ap9)); (try dsimp only))) | ((k_here; (with_reducible show wpAny _ _ (eval (Expr.IfExp (Expr.Compare (Expr.Name _ _) _ _ _) (Expr.Name _ _) (Expr.Name _ _) _) _) _ _ _); k_dflt (refine' last_join ?FQ8 ?hmQ8 ?hmlQ8 ?hlQ8 ?hcQ8 ?mlQ8 ?mcQ8 ?NQ8 ?_ ?_; (case FQ8 => k_asm); (case NQ8 => k_asm); (case hmQ8 => exact rfl); (case hmlQ8 => exact rfl); (case hlQ8 => with_reducible assumption); (case hcQ8 => with_reducible assumption); (case mlQ8 => k_mem); (case mcQ8 => k_mem)); (k_dflt focus ((with_reducible refine IfExp_ ?_); (repeat' (first | ((with_reducible refine go ?_); (first | ((k_here; (with_reducible show wpAny _ _ (compareOp CmpOp.Eq (Value.ref _) (Value.ref _)) _ _ _); k_dflt (apply all_eq_same2; k_asm; (focus k_mem); (focus k_mem); (focus k_mem); (focus k_mem); (focus k_mem); (focus k_mem); (with_reducible assumption); (with_reducible assumption); (with_reducible assumption); (with_reducible assumption); (with_reducible assumption); (focus units_room)); (try dsimp only))) | ((k_here; (with_reducible show wpAny _ _ (call (Value.ref 115) [Value.ref _]) _ _ _); k_dflt (apply all_spec (u := ⟨_, _, _, _, _, _, _, _⟩); walk_at "my six"; (focus k_mem); (focus k_mem); (focus k_mem); k_asm; k_asm; walk_at "my le"; (focus exact cntAt_of (by with_reducible assumption) (by k_mem) (by with_reducible assumption)); (focus exact cntAt_of (by with_reducible assumption) (by k_mem) (by with_reducible assumption)); (focus ktr_room)); intro R9 p19 p29 v9 a19 a29 a39 a49 a59 a69 h9 tk9 a9 F9 N9; clear a9; (try dsimp only))) | ((k_here; (with_reducible show wpAny _ _ (call (Value.type "zip") [Value.ref _, Value.ref _]) _ _ _); k_dflt (apply zle; rfl; decide; rfl; rfl; rfl; decide; k_asm; k_asm; (focus k_mem); (focus k_mem); walk_at "my le"; walk_at "my le"; walk_at "my le"); (k_dflt focus (intro C9 oC9 m9 h9 tk9 x9 y9 t9 t99 E9 Qt9 Qe9 le9 g19 g29 hC9 F9 N9 hq9; (try dsimp only); k_steps; (all_goals (first | (exfalso; omega) | exact hq9 _ _ (by assumption) (fun _ _ ek _ => ek))))); intro D9 h9 tk9 a9 F9 N9; (try dsimp only at N9); (try dsimp only))) | ((k_here; (with_reducible show wpAny _ _ (eval (Expr.ListComp _ [⟨Expr.Tuple _ _ _, _, _, _⟩] _ _) _) _ _ _); k_dflt (refine lc_tuple (by intro _; with_unfolding_all rfl) (by with_unfolding_all rfl) (by rfl) (by decide) ?_))) | ((k_here; (with_reducible show wpAny _ _ (call (Value.ref 108) [Value.ref _, Value.int _ _]) _ _ _); k_dflt (apply beg_specG; walk_at "my six"; (focus k_mem); k_asm; k_asm; (focus first | assumption | rfl); (focus first | assumption | rfl); (focus k_mem); (focus k_mem); (focus l_ints); (focus l_ints); assumption; assumption; assumption; (focus ktr_room); walk_at "my le"); intro x9 dx9 ds9 dc9 ta9 oS9 oC9 kvS9 v29 v39 a19 a29 u9 h9 tk9 f19 f29 f39 f49 f59 ap9 lo9 lo29 hS9 hv9 hc09 hC9 F9 N9; (simp only [Apart, NeAll, and_true, and_assoc] at ap9); (repeat (have hdf := And.left ap9; replace ap9 := And.right ap9)); (try dsimp only))) | ((k_here; (with_reducible show wpAny _ _ (eval (Expr.IfExp (Expr.Compare (Expr.Name _ _) _ _ _) (Expr.Name _ _) (Expr.Name _ _) _) _) _ _ _); k_dflt (refine' last_join ?FQ8 ?hmQ8 ?hmlQ8 ?hlQ8 ?hcQ8 ?mlQ8 ?mcQ8 ?NQ8 ?_ ?_; (case FQ8 => k_asm); (case NQ8 => k_asm); (case hmQ8 => exact rfl); (case hmlQ8 => exact rfl); (case hlQ8 => with_reducible assumption); (case hcQ8 => with_reducible assumption); (case mlQ8 => k_mem); (case mcQ8 => k_mem)); (k_dflt focus ((with_reducible refine IfExp_ ?_); k_steps; (all_goals (first | exact Or.inl ⟨by assumption, rfl⟩ | exact Or.inr ⟨⟨_, by assumption⟩, rfl⟩ | exact ⟨_, rfl⟩ | exact ⟨.inl ⟨by assumption, rfl⟩, _, rfl⟩ | exact ⟨.inr ⟨⟨_, by assumption⟩, rfl⟩, _, rfl⟩)))); intro v9 k9 o9 tk9 hv9 ei9 N9; (try dsimp only))) | ((k_here; (with_reducible show wpAny _ _ (compareOp CmpOp.Is _ Value.none) _ _ _); k_dflt (apply is_none; (with_reducible assumption)); (intro e9; (try dsimp only)); rotate_left; (intro e9; (try dsimp only)); rotate_right)) | ((k_here; (with_reducible show wpAny _ _ (call (Value.ref 54) [Value.ref _, Value.str _ _]) _ _ _); k_dflt (apply sent_any (u := ⟨_, _, _, _, _, _, _, _⟩); walk_at "my six"; (focus k_mem); (focus k_mem); (focus k_mem); k_asm; k_asm; (with_reducible assumption); (focus ktr_room)); intro h9 tk9 F9 N9; (try dsimp only))) | ((k_here; (with_reducible show wpAny _ _ (call (Value.ref 61) [Value.ref _, Value.str _ _]) _ _ _); k_dflt (apply counts_any (u := ⟨_, _, _, _, _, _, _, _⟩); walk_at "my six"; (focus k_mem); (focus k_mem); (focus k_mem); k_asm; k_asm; walk_at "my le"; (with_reducible assumption); (focus k_mem); (focus ktr_room)); intro p9 a19 a29 a39 h9 tk9 b9 F9 N9; (try dsimp only))) | ((k_here; (with_reducible show wpAny _ _ (call (Value.ref 82) [Value.ref _, Value.str _ _, _, _, Value.bool false]) _ _ _); k_dflt (apply ack_false; k_asm; k_asm; k_asm; k_asm; (first | exact rfl | assumption); (focus ktr_room)); intro tr9 h9 tk9 F9 K9; (have N9 := news_keep (by with_reducible assumption) K9); clear K9; (try dsimp only))) | ((k_here; (with_reducible show wpAny _ _ (call (Value.ref 82) [Value.ref _, Value.str _ _, _, Value.ref _, Value.bool true]) _ _ _); k_dflt (apply ack_any (u := ⟨_, _, _, _, _, _, _, _⟩); walk_at "my six"; (with_reducible assumption); (focus k_mem); (focus k_mem); (focus k_updF); (focus intro _; k_updF); (focus k_mem); k_asm; k_asm; k_asm; k_asm; (with_reducible assumption); (focus k_mem); (with_reducible assumption); (focus k_mem); (focus k_mem); walk_at "my le"; (focus l_ints); (focus walk_at "my dif"); (focus walk_at "my dif"); (focus walk_at "my dif"); (focus ktr_room); walk_at "my le"; walk_at "my le"; walk_at "my le"); intro st9 oC9 ob9 ck9 kb9 z9 o9 c9 r9 v9 tr9 h9 tk9 hA9 e19 e29 e39 e49 e59 e69 er9 ei9 hC9 hq9 hl9 hd9 hw9 F9 N9; clear hw9; (have hok9 := strOk_acked hA9 (by first | with_reducible assumption | exact strOk_stOf)); subst er9; (try dsimp only at N9); (try dsimp only at hl9); (try simp only [List.length_nil, Nat.zero_add] at hl9); (try walk_at "my chain"); (try dsimp only))) | (((unfold LCg.FinE); intro D' h' tk' F' N' o1'; (replace o1' := off1_dif o1'); (try simp only [List.nil_append, List.cons_append] at N'); (try dsimp only))) | ((k_here; k_dflt (apply newList_K; k_asm; k_asm; k_whole); intro l' h' F' N' l1; (replace l1 := allNe_lt l1); (try k_sweep))) | ((k_here; k_dflt (refine' kup_newTuple ?FQ0 ?NQ0 ?_ ?zQ0; (case FQ0 => k_asm); (case NQ0 => k_asm); (case zQ0 => kmk_size)); intro D' h' F' N' l1; (replace l1 := allNe_lt l1); (try k_sweep))))) | (k_unfold; (try dsimp only)) | (k_end; kc_close) | walk1 | (dsimp only; walk1) | (leave1; (try dsimp only)) | fail "no step")); (all_goals (first | exact Or.inl ⟨by assumption, rfl⟩ | exact Or.inr ⟨⟨_, by assumption⟩, rfl⟩ | exact ⟨_, rfl⟩ | exact ⟨.inl ⟨by assumption, rfl⟩, _, rfl⟩ | exact ⟨.inr ⟨⟨_, by assumption⟩, rfl⟩, _, rfl⟩)))); intro v9 k9 o9 tk9 hv9 ei9 N9; (try dsimp only))) | ((k_here; (with_reducible show wpAny _ _ (compareOp CmpOp.Is _ Value.none) _ _ _); k_dflt (apply is_none; (with_reducible assumption)); (intro e9; (try dsimp only)); rotate_left; (intro e9; (try dsimp only)); rotate_right)) | ((k_here; (with_reducible show wpAny _ _ (call (Value.ref 54) [Value.ref _, Value.str _ _]) _ _ _); k_dflt (apply sent_any (u := ⟨_, _, _, _, _, _, _, _⟩); walk_at "my six"; (focus k_mem); (focus k_mem); (focus k_mem); k_asm; k_asm; (with_reducible assumption); (focus ktr_room)); intro h9 tk9 F9 N9; (try dsimp only))) | ((k_here; (with_reducible show wpAny _ _ (call (Value.ref 61) [Value.ref _, Value.str _ _]) _ _ _); k_dflt (apply counts_any (u := ⟨_, _, _, _, _, _, _, _⟩); walk_at "my six"; (focus k_mem); (focus k_mem); (focus k_mem); k_asm; k_asm; walk_at "my le"; (with_reducible assumption); (focus k_mem); (focus ktr_room)); intro p9 a19 a29 a39 h9 tk9 b9 F9 N9; (try dsimp only))) | ((k_here; (with_reducible show wpAny _ _ (call (Value.ref 82) [Value.ref _, Value.str _ _, _, _, Value.bool false]) _ _ _); k_dflt (apply ack_false; k_asm; k_asm; k_asm; k_asm; (first | exact rfl | assumption); (focus ktr_room)); intro tr9 h9 tk9 F9 K9; (have N9 := news_keep (by with_reducible assumption) K9); clear K9; (try dsimp only))) | ((k_here; (with_reducible show wpAny _ _ (call (Value.ref 82) [Value.ref _, Value.str _ _, _, Value.ref _, Value.bool true]) _ _ _); k_dflt (apply ack_any (u := ⟨_, _, _, _, _, _, _, _⟩); walk_at "my six"; (with_reducible assumption); (focus k_mem); (focus k_mem); (focus k_updF); (focus intro _; k_updF); (focus k_mem); k_asm; k_asm; k_asm; k_asm; (with_reducible assumption); (focus k_mem); (with_reducible assumption); (focus k_mem); (focus k_mem); walk_at "my le"; (focus l_ints); (focus walk_at "my dif"); (focus walk_at "my dif"); (focus walk_at "my dif"); (focus ktr_room); walk_at "my le"; walk_at "my le"; walk_at "my le"); intro st9 oC9 ob9 ck9 kb9 z9 o9 c9 r9 v9 tr9 h9 tk9 hA9 e19 e29 e39 e49 e59 e69 er9 ei9 hC9 hq9 hl9 hd9 hw9 F9 N9; clear hw9; (have hok9 := strOk_acked hA9 (by first | with_reducible assumption | exact strOk_stOf)); subst er9; (try dsimp only at N9); (try dsimp only at hl9); (try simp only [List.length_nil, Nat.zero_add] at hl9); (try walk_at "my chain"); (try dsimp only))) | (((unfold LCg.FinE); intro D' h' tk' F' N' o1'; (replace o1' := off1_dif o1'); (try simp only [List.nil_append, List.cons_append] at N'); (try dsimp only))) | ((k_here; k_dflt (apply newList_K; k_asm; k_asm; k_whole); intro l' h' F' N' l1; (replace l1 := allNe_lt l1); (try k_sweep))) | ((k_here; k_dflt (refine' kup_newTuple ?FQ0 ?NQ0 ?_ ?zQ0; (case FQ0 => k_asm); (case NQ0 => k_asm); (case zQ0 => kmk_size)); intro D' h' F' N' l1; (replace l1 := allNe_lt l1); (try k_sweep))))) | (k_unfold; (try dsimp only)) | (k_end; kc_close) | walk1 | (dsimp only; walk1) | (leave1; (try dsimp only)) | fail "no step")
  all_goals first
    | ((rename GSub (Shared.heap s) _ _ => kG)
       exact hret _ _ (by assumption) (kept_of kG (by assumption) N (by assumption) (by walk_at "my kept")))
    | (exfalso; omega)

end
section
variable {prog : Program} {w : World} {p : Program} {loose : List Str} {mean : ExcName → Option Value} {mg mb : Str → Option Value}
  {dp un : Nat} {gd : Option (List Code)} {cn : Str} {cs : Scope} {a : Addr} {ccd : Value} {cl : List (Str × Addr)} {outer : List Env} {A₀ : Around} {base h₀ : Heap} {L : Addr} {m : Str → Option Value} {s : Shared} {Q E : Value → Shared → Prop}
theorem Kept.comp {us : List Addr} {h h1 h2 : Heap} (a : Kept [] h h1) (b : Kept us h1 h2) : Kept us h h2 := fun x o e hx => b x o (a x o e (by simp)) hx
theorem newList_KK {A : Around} {vs : List Value} {news : List (Addr × Obj)} (F : Fr h₀ L s.heap m) (N : News h₀ L s.heap news)
    (h : ∀ l h', Kept [] s.heap h' → Fr h₀ L h' m → News h₀ L h' ((l, listOf vs.toArray 0) :: news) → (∀ p ∈ news, p.1 < l) → Q (.ref l) { s with heap := h' }) (hsz : vs.length ≤ sizeLine := by size_fits) : wpAny (model prog w) A (newList vs) Q E s :=
  newList_NK F N (fun h' F' N' K => h _ h' (fun x o e _ => K x o e) F' N' fun p hp => Heap.lt_size (N p hp).1) hsz
theorem menu_at (n : Nat) : (0 : Int) ≤ ([2, 2, 1, 0] : List Int).getD n 0 ∧ ([2, 2, 1, 0] : List Int).getD n 0 ≤ 2 := by
  rcases n with _ | _ | _ | _ | n <;> simp
theorem before_join {A : Around} {T : Sem Value} {cv : Value} {kc : Addr} {oc : Obj} {k : Option C3} {news : List (Addr × Obj)} (F : Fr h₀ L s.heap m)
    (hc : CvIs cv kc oc k) (mc : (kc, oc) ∈ news) (N : News h₀ L s.heap news)
    (h : wpAny (model prog w) A T (fun v s' => ((∃ r, cv = .ref r) ∧ v = cv ∧ ∃ tk, s' = { s with toks := tk }) ∨ ∃ q z1 z2 z3 a1 a2 a3 h' tk, v = .ref q ∧ s' = { s with heap := h', toks := tk } ∧ AllNe q news ∧ Fr h₀ L h' m ∧ News h₀ L h' ((q, tup3 z1 z2 z3 a1 a2 a3) :: news)) E s)
    (hQ : ∀ (q : Addr) (z1 z2 z3 : Int) (a1 a2 a3 : Tok) (h' : Heap) (tk : Nat), Born q kc news → Fr h₀ L h' m → News h₀ L h' ((q, tup3 z1 z2 z3 a1 a2 a3) :: news) → Q (.ref q) { s with heap := h', toks := tk }) : wpAny (model prog w) A T Q E s := by
  refine wpAny_mono h ?_ (fun _ _ e => e)
  rintro v s' (⟨⟨r, e⟩, rfl, tk, rfl⟩ | ⟨q, z1, z2, z3, a1, a2, a3, h', tk, rfl, rfl, hn, F', N'⟩)
  · cases k with
    | none => rw [hc.1] at e; cases e
    | some c =>
      obtain ⟨rfl, a1, a2, a3, rfl⟩ := hc
      exact hQ kc _ _ _ a1 a2 a3 s.heap tk (.inl rfl) F (List.forall_mem_cons.mpr ⟨N _ mc, N⟩)
  · exact hQ q z1 z2 z3 a1 a2 a3 h' tk (.inr hn) F' N'
/-- _law_steps_right, seen from a whole ledger -/
theorem right_any {sd l1 l2 sl s1 s2 lm1 lm2 kc1 kc2 : Addr} {trials : Int} {tt us : Tok} {sp : Str} {os oc1 oc2 : Obj} {kvs : List (Str × Value)} {vs1 vs2 ws1 ws2 : List Value} {ns1 ns2 ms1 ms2 : List Int} {n1 n2 n3 : Nat} {cv1 cv2 : Value} {k1 k2 : Option C3} {news : List (Addr × Obj)}
    (B : Below A₀ base outer h₀) (F : Fr h₀ L s.heap m) (X : (hd.heap_39 w.params).In h₀) (N : News h₀ L s.heap news) (T : Top p loose mean mg mb h₀) (hk : cs.kind = .function)
    (msd : (sd, os) ∈ news) (ml1 : (l1, listOf vs1.toArray n1) ∈ news) (ml2 : (l2, listOf vs2.toArray n2) ∈ news) (msl : (sl, listOf [.ref s1, .ref s2].toArray n3) ∈ news) (ms1' : (s1, stepObj cv1 lm1) ∈ news) (ms2' : (s2, stepObj cv2 lm2) ∈ news) (mlm1 : (lm1, listOf ws1.toArray 0) ∈ news) (mlm2 : (lm2, listOf ws2.toArray 0) ∈ news)
    (hcv1 : CvIs cv1 kc1 oc1 k1) (hcv2 : CvIs cv2 kc2 oc2 k2) (mkc1 : (kc1, oc1) ∈ news) (mkc2 : (kc2, oc2) ∈ news)
    (hos : os.IsDictOf (PySem.strKind prog w) kvs) (lo : (sd == sysModules) = false) (hv1 : valueAt kvs (Str.ofString "one") = some (.ref l1)) (hv2 : valueAt kvs (Str.ofString "two") = some (.ref l2))
    (hI1 : IntsAre vs1 ns1) (hI2 : IntsAre vs2 ns2) (hJ1 : IntsAre ws1 ms1) (hJ2 : IntsAre ws2 ms2) (hn1 : ns1 ≠ []) (hn2 : ns2 ≠ []) (hm1 : ms1.length ≤ 3) (hm2 : ms2.length ≤ 3) (hsp : sp = Str.ofString "one" ∨ sp = Str.ofString "two")
    (hdp : dp + 8 < recursionLimit) (hun : un + 200 < cLine) (ht0 : 1 ≤ trials)
    (hret : ∀ (h' : Heap) (tk' : Nat), Fr h₀ L h' m → News h₀ L h' news → Q (.bool true) { s with heap := h', toks := tk' }) :
    wpAny (model prog w) (ktrTop dp un gd cn cs L a ccd cl outer) (call (.ref 120) [.ref sd, .int trials tt, .str sp us, .ref sl]) Q E s := by
  have NN := news_sub N (List.forall_mem_cons.mpr ⟨msd, List.forall_mem_cons.mpr ⟨ml1, List.forall_mem_cons.mpr ⟨ml2, List.forall_mem_cons.mpr ⟨msl, List.forall_mem_cons.mpr ⟨ms1', List.forall_mem_cons.mpr ⟨ms2', List.forall_mem_cons.mpr ⟨mlm1, List.forall_mem_cons.mpr ⟨mlm2, List.forall_mem_cons.mpr ⟨mkc1, List.forall_mem_cons.mpr ⟨mkc2, List.forall_mem_nil _⟩⟩⟩⟩⟩⟩⟩⟩⟩⟩)
  have hsp' : ∃ ns, sp = Str.ofString "one" ∧ ns = ns1 ∨ sp = Str.ofString "two" ∧ ns = ns2 := by
    rcases hsp with e | e
    · exact ⟨ns1, .inl ⟨e, rfl⟩⟩
    · exact ⟨ns2, .inr ⟨e, rfl⟩⟩
  obtain ⟨ns, hsp'⟩ := hsp'
  exact right_core B F X NN T hk hos lo hv1 hv2 hI1 hI2 hJ1 hJ2 hn1 hn2 hm1 hm2 hsp' hcv1 hcv2 hdp hun ht0 fun h' tk' F' K => hret h' tk' F' (news_keep N K)

end
section
variable {prog : Program} {w : World} {p : Program} {loose : List Str} {mean : ExcName → Option Value} {mg mb : Str → Option Value}
  {dp un : Nat} {gd : Option (List Code)} {cn : Str} {cs : Scope} {a : Addr} {ccd : Value} {cl : List (Str × Addr)} {outer : List Env} {A₀ : Around} {base h₀ : Heap} {L : Addr} {m : Str → Option Value} {s : Shared} {Q E : Value → Shared → Prop}
local macro_rules | `(tactic| walk_at "pad") => `(tactic| skip)
/-- two spaces told in whichever order -/
theorem fits_st {st : Str} {z o c n2 n1 sz so z' o' c' : Int} {k : Option C3} {st' : Str} (h : Acked st z o c k n2 n1 sz so st' z' o' c') (hs : st ≠ failedS) : (st' = failedS ∧ z' = z ∧ o' = o ∧ c' = c) ∨ (st' ≠ failedS ∧ (st' = st ∨ 0 < n2 + n1 ∧ st' = ackSt st (n2 + n1))) := by
  rcases h with ⟨e, _⟩ | ⟨_, h⟩
  · exact absurd e hs
  cases k with
  | none =>
    obtain ⟨rfl, rfl, rfl, h⟩ := h
    rcases h with ⟨_, rfl⟩ | ⟨_, rfl⟩
    · exact .inr ⟨hs, .inl rfl⟩
    · exact .inl ⟨rfl, rfl, rfl, rfl⟩
  | some q =>
    rcases h with ⟨_, rfl, rfl, rfl, rfl⟩ | ⟨_, rfl, rfl, rfl, rfl⟩
    · refine .inr ⟨?_, ?_⟩
      · unfold ackSt
        split
        · decide
        · exact hs
      · unfold ackSt
        split
        · exact .inr ⟨by assumption, rfl⟩
        · exact .inl rfl
    · exact .inl ⟨rfl, rfl, rfl, rfl⟩
/-- what an acknowledgement does, told without the state: does it fit, does it make the state good, the counts -/
theorem acked_form {z o c n2 n1 sz so : Int} {k : Option C3} : ∃ (ok : Prop) (gd : Bool) (q : C3), ∀ (st st' : Str) (z' o' c' : Int), st ≠ failedS → Acked st z o c k n2 n1 sz so st' z' o' c' →
    (ok ∧ st' = (if gd = true then Str.ofString "good" else st) ∧ z' = q.1 ∧ o' = q.2.1 ∧ c' = q.2.2) ∨ (¬ ok ∧ st' = failedS) := by
  cases k with
  | none =>
    refine ⟨n2 + n1 = 0, false, (z, o, c), fun st st' z' o' c' hs h => ?_⟩
    rcases h with ⟨e, _⟩ | ⟨_, h⟩
    · exact absurd e hs
    obtain ⟨rfl, rfl, rfl, h⟩ := h
    rcases h with ⟨hn, rfl⟩ | ⟨hn, rfl⟩
    · exact .inl ⟨hn, rfl, rfl, rfl, rfl⟩
    · exact .inr ⟨hn, rfl⟩
  | some q =>
    refine ⟨Fits z o c q.1 q.2.1 q.2.2 n2 n1 sz so, decide (0 < n2 + n1), q, fun st st' z' o' c' hs h => ?_⟩
    rcases h with ⟨e, _⟩ | ⟨_, h⟩
    · exact absurd e hs
    rcases h with ⟨hn, rfl, rfl, rfl, rfl⟩ | ⟨hn, rfl, rfl, rfl, rfl⟩
    · refine .inl ⟨hn, ?_, rfl, rfl, rfl⟩
      by_cases hp : 0 < n2 + n1 <;> simp [ackSt, hp]
    · exact .inr ⟨hn, rfl⟩
theorem acked_failed {st' : Str} {z o c n2 n1 sz so z' o' c' : Int} {k : Option C3} (h : Acked failedS z o c k n2 n1 sz so st' z' o' c') : st' = failedS := by
  rcases h with ⟨_, e, _⟩ | ⟨e, _⟩
  · exact e
  · exact absurd rfl e
theorem acked_swap {st sa sb sc sd : Str} {za oa ca zb ob cb zc oc cc zd od cd s1 o1 s2 o2 n12 n11 n22 n21 : Int} {k1 k2 : Option C3} (hs : st ≠ failedS)
    (h1 : Acked st 0 0 0 k1 n12 n11 s1 o1 sa za oa ca) (h2 : Acked sa 0 0 0 k2 n22 n21 s2 o2 sb zb ob cb)
    (h3 : Acked st 0 0 0 k2 n22 n21 s2 o2 sc zc oc cc) (h4 : Acked sc 0 0 0 k1 n12 n11 s1 o1 sd zd od cd) :
    sd = sb ∧ (sb ≠ failedS → zd = za ∧ od = oa ∧ cd = ca ∧ zc = zb ∧ oc = ob ∧ cc = cb) := by
  obtain ⟨ok1, g1, q1, f1⟩ := @acked_form 0 0 0 n12 n11 s1 o1 k1
  obtain ⟨ok2, g2, q2, f2⟩ := @acked_form 0 0 0 n22 n21 s2 o2 k2
  have gne : ∀ (g : Bool) (t : Str), t ≠ failedS → (if g = true then Str.ofString "good" else t) ≠ failedS := by
    intro g t ht
    cases g
    · exact ht
    · show Str.ofString "good" ≠ failedS
      decide
  have comm : ∀ (g g' : Bool) (t : Str), (if g = true then Str.ofString "good" else if g' = true then Str.ofString "good" else t) = (if g' = true then Str.ofString "good" else if g = true then Str.ofString "good" else t) := by
    intro g g' t
    cases g <;> cases g' <;> rfl
  rcases f1 _ _ _ _ _ hs h1 with ⟨y1, rfl, rfl, rfl, rfl⟩ | ⟨y1, rfl⟩
  · rcases f2 _ _ _ _ _ (gne g1 st hs) h2 with ⟨y2, rfl, rfl, rfl, rfl⟩ | ⟨y2, rfl⟩
    · rcases f2 _ _ _ _ _ hs h3 with ⟨_, rfl, rfl, rfl, rfl⟩ | ⟨n, _⟩
      · rcases f1 _ _ _ _ _ (gne g2 st hs) h4 with ⟨_, rfl, rfl, rfl, rfl⟩ | ⟨n, _⟩
        · exact ⟨comm _ _ _, fun _ => ⟨rfl, rfl, rfl, rfl, rfl, rfl⟩⟩
        · exact absurd y1 n
      · exact absurd y2 n
    · rcases f2 _ _ _ _ _ hs h3 with ⟨n, _⟩ | ⟨_, rfl⟩
      · exact absurd n y2
      · exact ⟨acked_failed h4, fun n => absurd rfl n⟩
  · have e2 := acked_failed h2
    subst e2
    refine ⟨?_, fun n => absurd rfl n⟩
    by_cases hc : sc = failedS
    · subst hc
      exact acked_failed h4
    · rcases f1 _ _ _ _ _ hc h4 with ⟨n, _⟩ | ⟨_, e⟩
      · exact absurd n y1
      · exact e
theorem swap_elim {P : Prop} {st sa sb sc sd : Str} {za oa ca zb ob cb zc oc cc zd od cd s1 o1 s2 o2 n12 n11 n22 n21 : Int} {k1 k2 : Option C3}
    (h4 : Acked sc 0 0 0 k1 n12 n11 s1 o1 sd zd od cd) (h3 : Acked st 0 0 0 k2 n22 n21 s2 o2 sc zc oc cc) (h2 : Acked sa 0 0 0 k2 n22 n21 s2 o2 sb zb ob cb) (h1 : Acked st 0 0 0 k1 n12 n11 s1 o1 sa za oa ca)
    (hs : (st == failedS) = false) (hf : (sb == failedS) = false) (k : sd = sb → zd = za → od = oa → cd = ca → zc = zb → oc = ob → cc = cb → P) : P := by
  have ne : ∀ {t : Str}, (t == failedS) = false → t ≠ failedS := fun {t} h e => by rw [e] at h; revert h; decide
  obtain ⟨e, h⟩ := acked_swap (ne hs) h1 h2 h3 h4
  obtain ⟨a, b, c, d, f, g⟩ := h (ne hf)
  exact k e a b c d f g
theorem swap_elim_st {P : Prop} {st sa sb sc sd : Str} {za oa ca zb ob cb zc oc cc zd od cd s1 o1 s2 o2 n12 n11 n22 n21 : Int} {k1 k2 : Option C3}
    (h4 : Acked sc 0 0 0 k1 n12 n11 s1 o1 sd zd od cd) (h3 : Acked st 0 0 0 k2 n22 n21 s2 o2 sc zc oc cc) (h2 : Acked sa 0 0 0 k2 n22 n21 s2 o2 sb zb ob cb) (h1 : Acked st 0 0 0 k1 n12 n11 s1 o1 sa za oa ca)
    (hs : (st == failedS) = false) (k : sd = sb → P) : P := by
  have ne : ∀ {t : Str}, (t == failedS) = false → t ≠ failedS := fun {t} h e => by rw [e] at h; revert h; decide
  exact k (acked_swap (ne hs) h1 h2 h3 h4).1
theorem stOf_ok' {trials td : Int} : (stOf trials td == failedS) = false := stOf_ok
theorem cntIs_to {ck1 ck2 : List (Str × Value)} {sp sp' : Str} {kb : Addr} {ob : Obj} {z o c : Int} (hq : ∀ q, q ≠ sp' → valueAt ck2 q = valueAt ck1 q) (h : CntIs ck1 sp kb ob z o c) (hne : sp ≠ sp') : CntIs ck2 sp kb ob z o c := by
  rcases h with ⟨h, r⟩ | ⟨h, r⟩
  · exact .inl ⟨(hq _ hne).trans h, r⟩
  · exact .inr ⟨(hq _ hne).trans h, r⟩
section
variable {A : Around} {env : Env}
open LCg in
/-- a comprehension over a tuple of the ledger -/
theorem ListComp_tup {elt : Expr} {x nm : Str} {px pn : Pos} {scope : Scope} {cl : List (Str × Addr)} {pos : Pos} {ax : Addr} {vs : List Value} {news : List (Addr × Obj)} (hh : A.handled = none) (F : Fr h₀ L s.heap m) (N : News h₀ L s.heap news) (hm : (ax, ({ cls := .type "tuple", data := .seq vs.toArray } : Obj)) ∈ news)
    (hclos : closureFor scope env = pure cl) (hcell : ∀ y ∈ scope.names, y.2 ≠ .cell) (hkind : scope.kind = .function)
    (hnames : ∀ y ∈ scope.names, y.2 = .local → scope.names.lookup y.1 = some .local) (hx : scope.names.lookup x = some .local) (hsz : vs.length ≤ sizeLine) (hord : m nm = some (.ref ax))
    (h : wpAny (model prog w) A (eval (.Name nm pn) env) (fun xv s₁ => xv = .ref ax ∧ ∃ tk, s₁ = { s with toks := tk }) E s)
    (hr : ∀ (g : Heap) (tk : Nat), CompRest prog w A h₀ L m env elt x scope cl { s with heap := g, toks := tk } (fun nx => False ∨ ∃ o, (ax, o) ∈ nx ∧ o.cls = .type "tuple" ∧ ∃ n, o.data = .seq vs.toArray n) (fun i v => vs.toArray[i]? = some v) (FinE h₀ L m { s with heap := g, toks := tk } Q) vs.toArray.size 0 [] news)
    (hs : ∀ x, foldedSetIterable (.Name nm pn) env x = pure x := by intro _; rfl) :
    wpAny (model prog w) A (eval (.ListComp elt [⟨.Name x px, .Name nm pn, [], 0⟩] scope pos) env) Q E s := by
  rw [eval_ListComp]
  refine wpAny_comprehension_free (use := none) rfl hs hclos hkind hnames (wpAny_mono h (fun xv s₁ h₁ => ?_) fun _ _ e => e)
  obtain ⟨rfl, tk, rfl⟩ := h₁
  have hl : s.heap.IsTuple ax vs.toArray := ⟨_, (N _ hm).1, rfl, _, rfl⟩
  have hlt : ax < s.heap.objs.size := Heap.lt_size (N _ hm).1
  have tup_st : ∀ {I : Addr} i (h h' : Heap) (o : Obj) (nw : List (Addr × Obj)), (h.IsTupleIter I ax i ∧ h.IsTuple ax vs.toArray) → h.get? I = some o → h'.get? I = some o → (∀ b o, h₀.get? b = some o → h'.get? b = some o) → News h₀ L h' nw → (False ∨ ∃ o, (ax, o) ∈ nw ∧ o.cls = .type "tuple" ∧ ∃ n, o.data = .seq vs.toArray n) → (h'.IsTupleIter I ax i ∧ h'.IsTuple ax vs.toArray) :=
    fun i h h' o nw st e e' k N S => ⟨by obtain ⟨o', q, r⟩ := st.1; rw [e] at q; cases q; exact ⟨o, e', r⟩, by
      rcases S with S | ⟨o', hm', r⟩
      · exact S.elim
      · exact ⟨o', (N _ hm').1, r⟩⟩
  refine wpAny_pyIter_tuple hl ?_
  have up : ∀ b o, s.heap.get? b = some o → (s.heap.push { cls := .type "tuple_iterator", data := .fields #[.ref ax, .int 0 0] }).get? b = some o := fun b o e => Heap.get?_push_of_some _ e
  refine block_U (Walks.tuple hh s.heap.objs.size ax (Nat.ne_of_lt hlt) vs.toArray) (by rw [List.size_toArray]; exact hsz) (fun i h st => by obtain ⟨o, e, _⟩ := st.1; exact ⟨o, e⟩) tup_st hcell hkind hx ⟨⟨_, Heap.get?_push_size _ rfl, rfl, rfl⟩, hl.at fun o e => up _ _ e⟩ (fun b hb => ?_)
    (F.keeps up) (N.grown up) (Nat.ne_of_lt F.ns.lt) (next_is_new F) (fun p hp => Nat.ne_of_lt (Heap.lt_size (N p hp).1)) (.inr ⟨_, hm, rfl, _, rfl⟩) (hr _ tk) ?_
  · show b < (s.heap.push _).objs.size
    rw [Heap.size_push]
    rcases List.mem_cons.mp hb with rfl | hb
    · exact Nat.lt_succ_self _
    · rw [List.mem_singleton.mp hb]; exact Nat.lt_succ_of_lt hlt
  · intro D C h tk m' ys news' F' N' o1 hn hC₀ hD₀ hCL hDL hCD offC fin
    refine ⟨m', hn, fun h'' hs'' => fin D h'' tk (F'.change hs'' hCL hC₀) (fun p hp => ?_) o1⟩
    refine ⟨hs''.extBut _ _ ?_ (N' p hp).1, (N' p hp).2⟩
    rcases List.mem_cons.mp hp with rfl | hp
    · exact Ne.symm hCD
    · exact offC p hp
end

end
section
variable {prog : Program} {w : World} {p : Program} {loose : List Str} {mean : ExcName → Option Value} {mg mb : Str → Option Value}
  {dp un : Nat} {gd : Option (List Code)} {cn : Str} {cs : Scope} {a : Addr} {ccd : Value} {cl : List (Str × Addr)} {outer : List Env} {A₀ : Around} {base h₀ : Heap} {L : Addr} {m : Str → Option Value} {s : Shared} {Q E : Value → Shared → Prop}
abbrev toldObj (st : Str) (v : Tok) (r : Value) (n : Value) : Obj := { cls := .type "tuple", data := .seq [.str st v, r, n].toArray }
theorem reads_told {h : Heap} {T R p1 p2 : Addr} {news : List (Addr × Obj)} {st : Str} {n : Int} {w0 t v a1 a2 a3 a4 a5 a6 : Tok} {z1 o1 c1 z2 o2 c2 : Int} (N : News h₀ L h news) (mT : (T, toldObj st w0 (.ref R) (.int n t)) ∈ news) (mR : (R, tupAll st p1 p2 v) ∈ news) (m1 : (p1, tup3 z1 o1 c1 a1 a2 a3) ∈ news) (m2 : (p2, tup3 z2 o2 c2 a4 a5 a6) ∈ news) :
    Reads h (.ref T) (.tuple [.str st, allD st z1 o1 c1 z2 o2 c2, .int n]) [] :=
  reads_tuple_at (N _ mT).1 rfl rfl (readsAll_cons_val (Reads.str _ _) (readsAll_cons_val (reads_all N mR m1 m2) (readsAll_cons_val (Reads.int _ _) ReadsAll.nil)))
theorem told_some {A : Around} {T T' R p1 p2 R' q1 q2 : Addr} {news : List (Addr × Obj)} {st : Str} {n n' : Int} {w0 w0' t t' v a1 a2 a3 a4 a5 a6 v' b1 b2 b3 b4 b5 b6 : Tok} {z1 o1 c1 z2 o2 c2 : Int} (N : News h₀ L s.heap news) (mT : (T, toldObj st w0 (.ref R) (.int n t)) ∈ news) (mT' : (T', toldObj st w0' (.ref R') (.int n' t')) ∈ news)
    (mR : (R, tupAll st p1 p2 v) ∈ news) (m1 : (p1, tup3 z1 o1 c1 a1 a2 a3) ∈ news) (m2 : (p2, tup3 z2 o2 c2 a4 a5 a6) ∈ news)
    (mR' : (R', tupAll st q1 q2 v') ∈ news) (m1' : (q1, tup3 z1 o1 c1 b1 b2 b3) ∈ news) (m2' : (q2, tup3 z2 o2 c2 b4 b5 b6) ∈ news) (hn : n = n') (hs : PyData.strOk st = true) (hu : A.units + 64 < cLine) (h : Q (.bool true) s) : wpAny (model prog w) A (compareOp .Eq (.ref T) (.ref T')) Q E s := by
  subst hn
  have sh : PySem.SeqAt.shaped (.tuple [.str st, allD st z1 o1 c1 z2 o2 c2, .int n]) = true := by
    simp [allD, PySem.SeqAt.shaped, PyData.canLay0, PyData.canLayAll0, PyData.depth, PyData.depthAll, hs]
  have ev : PyData.eqv (.tuple [.str st, allD st z1 o1 c1 z2 o2 c2, .int n]) (.tuple [.str st, allD st z1 o1 c1 z2 o2 c2, .int n]) = true := by
    simp [allD, PyData.eqv, PyData.eqvAll]
  exact eq_dataH (reads_told N mT mR m1 m2) (reads_told N mT' mR' m1' m2') sh sh hu (by rw [ev]; exact h)
theorem told_none {A : Around} {T T' : Addr} {news : List (Addr × Obj)} {st : Str} {w0 w0' : Tok} (N : News h₀ L s.heap news) (mT : (T, toldObj st w0 .none .none) ∈ news) (mT' : (T', toldObj st w0' .none .none) ∈ news)
    (hs : PyData.strOk st = true) (hu : A.units + 64 < cLine) (h : Q (.bool true) s) : wpAny (model prog w) A (compareOp .Eq (.ref T) (.ref T')) Q E s := by
  have rd : ∀ {T : Addr} {w0 : Tok}, (T, toldObj st w0 .none .none) ∈ news → Reads s.heap (.ref T) (.tuple [.str st, .none, .none]) [] := fun mT =>
    reads_tuple_at (N _ mT).1 rfl rfl (readsAll_cons_val (Reads.str _ _) (readsAll_cons_val Reads.none (readsAll_cons_val Reads.none ReadsAll.nil)))
  have sh : PySem.SeqAt.shaped (.tuple [.str st, .none, .none]) = true := by
    simp [PySem.SeqAt.shaped, PyData.canLay0, PyData.canLayAll0, PyData.depth, PyData.depthAll, hs]
  have ev : PyData.eqv (.tuple [.str st, .none, .none]) (.tuple [.str st, .none, .none]) = true := by
    simp [PyData.eqv, PyData.eqvAll]
  exact eq_dataH (rd mT) (rd mT') sh sh hu (by rw [ev]; exact h)
/-- _law_begun in the law's last loop -/
theorem beg_specT {sd l1 l2 : Addr} {trials : Int} {tt : Tok} {os : Obj} {kvs : List (Str × Value)} {vs1 vs2 : List Value} {ns1 ns2 : List Int} {n1 n2 : Nat} {news : List (Addr × Obj)}
    (B : Below A₀ base outer h₀) (F : Fr h₀ L s.heap m) (X : (hd.heap_39 w.params).In h₀) (N : News h₀ L s.heap news) (T : Top p loose mean mg mb h₀) (hk : cs.kind = .function)
    (hsd : (sd, os) ∈ news) (hos : os.IsDictOf (PySem.strKind prog w) kvs) (lo : (sd == sysModules) = false) (hv1 : valueAt kvs (Str.ofString "one") = some (.ref l1)) (hv2 : valueAt kvs (Str.ofString "two") = some (.ref l2))
    (hl1 : (l1, listOf vs1.toArray n1) ∈ news) (hl2 : (l2, listOf vs2.toArray n2) ∈ news) (hI1 : IntsAre vs1 ns1) (hI2 : IntsAre vs2 ns2) (hn1 : ns1 ≠ []) (hn2 : ns2 ≠ [])
    (hdp : dp + 4 < recursionLimit) (ht0 : 1 ≤ trials)
    (hret : ∀ (x dx ds dc t1 t2 : Addr) (oS oC : Obj) (kvS : List (Str × Value)) (v2 v3 a1 a2 a3 a4 : Tok) (u : ETok) (h' : Heap) (tk' : Nat), 0 ≤ cntL 2 ns1 → 0 ≤ cntL 1 ns1 → 0 ≤ cntL 2 ns2 → 0 ≤ cntL 1 ns2 →
      AllNe x news → AllNe dx news → AllNe ds news → AllNe dc news → AllNe t1 news → AllNe t2 news → Apart [x, dx, ds, dc, t1, t2] → (ds == sysModules) = false → (dc == sysModules) = false → oS.IsDictOf (PySem.strKind prog w) kvS → valueAt kvS (Str.ofString "one") = some (.ref t1) → valueAt kvS (Str.ofString "two") = some (.ref t2) →
      CntIs [] (Str.ofString "one") t1 (tup2 (cntL 2 ns1) (cntL 1 ns1) a1 a2) 0 0 0 → CntIs [] (Str.ofString "two") t2 (tup2 (cntL 2 ns2) (cntL 1 ns2) a3 a4) 0 0 0 → oC.IsDictOf (PySem.strKind prog w) [] →
      Fr h₀ L h' m → News h₀ L h' ((x, instObj 85 dx) :: (dx, ecn w.params trials (stOf trials (0 + cntL 2 ns1 + cntL 1 ns1 + cntL 2 ns2 + cntL 1 ns2)) v2 (0 + cntL 2 ns1 + cntL 1 ns1 + cntL 2 ns2 + cntL 1 ns2) v3 ds dc u) :: (ds, oS) :: (dc, oC) :: (t1, tup2 (cntL 2 ns1) (cntL 1 ns1) a1 a2) :: (t2, tup2 (cntL 2 ns2) (cntL 1 ns2) a3 a4) :: news) → Q (.ref x) { s with heap := h', toks := tk' }) :
    wpAny (model prog w) (ktrTop dp un gd cn cs L a ccd cl outer) (call (.ref 108) [.ref sd, .int trials tt]) Q E s := by
  refine beg_spec B F X N T hk hsd hos lo hv1 hv2 hl1 hl2 hI1 hI2 hn1 hn2 hdp ht0 ?_
  rintro x dx ds dc t1 t2 oS oC v2 v3 a1 a2 a3 a4 u td h' tk' rfl f1 f2 f3 f4 f5 f6 hap lo1 lo2 hS hC F' N'
  exact hret x dx ds dc t1 t2 oS oC _ v2 v3 a1 a2 a3 a4 u h' tk' (cntL_nonneg _ _) (cntL_nonneg _ _) (cntL_nonneg _ _) (cntL_nonneg _ _) f1 f2 f3 f4 f5 f6 hap lo1 lo2 hS ((valueAt_stored_ne (by decide)).trans valueAt_stored) valueAt_stored
    (.inl ⟨rfl, rfl, rfl, rfl, _, _, rfl⟩) (.inl ⟨rfl, rfl, rfl, rfl, _, _, rfl⟩) hC F' N'
section
open LCg
theorem off3_dif {I C D : Addr} : ∀ {l : List (Addr × Obj)}, Off3 I C D l → AllNe I l ∧ AllNe C l ∧ AllNe D l
  | [], _ => ⟨trivial, trivial, trivial⟩
  | _ :: _, h => ⟨⟨h.1.1, (off3_dif h.2).1⟩, ⟨h.1.2.1, (off3_dif h.2).2.1⟩, ⟨h.1.2.2, (off3_dif h.2).2.2⟩⟩
theorem dif3 {I C D : Addr} (h : (@Ne Nat I C) ∧ (@Ne Nat I D) ∧ (@Ne Nat C D)) : Dif I C ∧ Dif I D ∧ Dif C D := h
end
theorem tup_list_ne {h : Heap} {a b : Addr} {D : Data} {xs : Array Value} {n : Nat} {news : List (Addr × Obj)} (N : News h₀ L h news) (ha : (a, ({ cls := .type "tuple", data := D } : Obj)) ∈ news) (hb : (b, listOf xs n) ∈ news) : @Ne Nat a b := by
  intro e
  have e' : a = b := e
  subst e'
  have z := (N _ ha).1
  rw [(N _ hb).1] at z
  have z2 := congrArg Obj.cls (Option.some.inj z)
  injection z2 with z3
  revert z3
  decide
theorem tup_cell_ne {h : Heap} {a b : Addr} {xs : Array Value} {n : Nat} {oc : Obj} {v : Option Value} {news : List (Addr × Obj)} (N : News h₀ L h news) (ha : (a, ({ cls := .type "tuple", data := .seq xs n } : Obj)) ∈ news) (hb : (b, oc) ∈ news) (hc : oc.data = .cell v) : @Ne Nat a b :=
  dif_of N ha hb (fun e => by rw [hc] at e; cases e)

end
section
variable {prog : Program} {w : World} {p : Program} {loose : List Str} {mean : ExcName → Option Value} {mg mb : Str → Option Value}
  {dp un : Nat} {gd : Option (List Code)} {cn : Str} {cs : Scope} {a : Addr} {ccd : Value} {cl : List (Str × Addr)} {outer : List Env} {A₀ : Around} {base h₀ : Heap} {L : Addr} {m : Str → Option Value} {s : Shared} {Q E : Value → Shared → Prop}
local macro_rules | `(tactic| walk_at "pad") => `(tactic| skip)
/-- the last loop's list: from here on the ledger holds only what the loop reads -/
theorem told_start {A : Around} {M sd l1 l2 std sl1 sl2 r1 r1' r2 r2' lm1 lm2 kc1 kc2 : Addr} {os oc2 oc3 ost okc1 okc2 : Obj} {kvs kst : List (Str × Value)} {cv1 cv2 : Value} {n1 n2 nm1 nm2 : Nat} {k1 k2 : Option C3} {ys1 ys2 vm1 vm2 : List Value} {ns1 ns2 ms1 ms2 : List Int} {r : Int} {tt : Tok} {vc3 : Option Value} {news : List (Addr × Obj)}
    (N : News h₀ L s.heap news) (F : Fr h₀ L s.heap m) (hsd : m (Str.ofString "sent") = some (.ref sd)) (htr : m (Str.ofString "trials") = some (.int (1 + r) tt)) (hr : 0 ≤ r)
    (c3 : ((@HAdd.hAdd Nat Nat Nat (@instHAdd Nat instAddNat) (@HAdd.hAdd Nat Nat Nat (@instHAdd Nat instAddNat) (@HAdd.hAdd Nat Nat Nat (@instHAdd Nat instAddNat) M (1 : Nat)) (1 : Nat)) (1 : Nat)), oc3) ∈ news) (c2 : ((@HAdd.hAdd Nat Nat Nat (@instHAdd Nat instAddNat) (@HAdd.hAdd Addr Nat Addr (@instHAdd Addr instAddNat) M (1 : Nat)) (1 : Nat)), oc2) ∈ news) (hc2 : oc2.data = .cell (some (.ref std))) (hc3 : oc3.data = .cell vc3)
    (msd : (sd, os) ∈ news) (hos : os.IsDictOf (PySem.strKind prog w) kvs) (lo : (sd == sysModules) = false) (hv1 : valueAt kvs (Str.ofString "one") = some (.ref l1)) (hv2 : valueAt kvs (Str.ofString "two") = some (.ref l2))
    (ml1 : (l1, LCg.lst ys1) ∈ news) (ml2 : (l2, LCg.lst ys2) ∈ news) (hI1 : IntsAre ys1 ns1) (hI2 : IntsAre ys2 ns2) (hn1 : ns1 ≠ []) (hn2 : ns2 ≠ [])
    (mst : (std, ost) ∈ news) (hst : ost.IsDictOf (PySem.strKind prog w) kst) (hs1 : valueAt kst (Str.ofString "one") = some (.ref sl1)) (hs2 : valueAt kst (Str.ofString "two") = some (.ref sl2))
    (msl1 : (sl1, listOf [.ref r1, .ref r1'].toArray n1) ∈ news) (msl2 : (sl2, listOf [.ref r2, .ref r2'].toArray n2) ∈ news) (mr1 : (r1, stepObj cv1 lm1) ∈ news) (mr2 : (r2, stepObj cv2 lm2) ∈ news) (mlm1 : (lm1, listOf vm1.toArray nm1) ∈ news) (mlm2 : (lm2, listOf vm2.toArray nm2) ∈ news)
    (hm1 : IntsAre vm1 ms1) (hm2 : IntsAre vm2 ms2) (hcv1 : CvIs cv1 kc1 okc1 k1) (hcv2 : CvIs cv2 kc2 okc2 k2) (mkc1 : (kc1, okc1) ∈ news) (mkc2 : (kc2, okc2) ∈ news)
    (d3 : AllNe (@HAdd.hAdd Nat Nat Nat (@instHAdd Nat instAddNat) (@HAdd.hAdd Nat Nat Nat (@instHAdd Nat instAddNat) (@HAdd.hAdd Nat Nat Nat (@instHAdd Nat instAddNat) M (1 : Nat)) (1 : Nat)) (1 : Nat)) [(sd, os), (l1, LCg.lst ys1), (l2, LCg.lst ys2), (std, ost), (sl1, listOf [.ref r1, .ref r1'].toArray n1), (sl2, listOf [.ref r2, .ref r2'].toArray n2), (r1, stepObj cv1 lm1), (r2, stepObj cv2 lm2), (lm1, listOf vm1.toArray nm1), (lm2, listOf vm2.toArray nm2), (kc1, okc1), (kc2, okc2), ((@HAdd.hAdd Nat Nat Nat (@instHAdd Nat instAddNat) (@HAdd.hAdd Addr Nat Addr (@instHAdd Addr instAddNat) M (1 : Nat)) (1 : Nat)), oc2)])
    (h : ∀ l h', Fr h₀ L h' m → News h₀ L h' ((l, listOf ([] : List Value).toArray 0) :: [(sd, os), (l1, LCg.lst ys1), (l2, LCg.lst ys2), (std, ost), (sl1, listOf [.ref r1, .ref r1'].toArray n1), (sl2, listOf [.ref r2, .ref r2'].toArray n2), (r1, stepObj cv1 lm1), (r2, stepObj cv2 lm2), (lm1, listOf vm1.toArray nm1), (lm2, listOf vm2.toArray nm2), (kc1, okc1), (kc2, okc2), ((@HAdd.hAdd Nat Nat Nat (@instHAdd Nat instAddNat) (@HAdd.hAdd Nat Nat Nat (@instHAdd Nat instAddNat) (@HAdd.hAdd Nat Nat Nat (@instHAdd Nat instAddNat) M (1 : Nat)) (1 : Nat)) (1 : Nat)), oc3), ((@HAdd.hAdd Nat Nat Nat (@instHAdd Nat instAddNat) (@HAdd.hAdd Addr Nat Addr (@instHAdd Addr instAddNat) M (1 : Nat)) (1 : Nat)), oc2)]) → AllNe l [(sd, os), (l1, LCg.lst ys1), (l2, LCg.lst ys2), (std, ost), (sl1, listOf [.ref r1, .ref r1'].toArray n1), (sl2, listOf [.ref r2, .ref r2'].toArray n2), (r1, stepObj cv1 lm1), (r2, stepObj cv2 lm2), (lm1, listOf vm1.toArray nm1), (lm2, listOf vm2.toArray nm2), (kc1, okc1), (kc2, okc2), ((@HAdd.hAdd Nat Nat Nat (@instHAdd Nat instAddNat) (@HAdd.hAdd Nat Nat Nat (@instHAdd Nat instAddNat) (@HAdd.hAdd Nat Nat Nat (@instHAdd Nat instAddNat) M (1 : Nat)) (1 : Nat)) (1 : Nat)), oc3), ((@HAdd.hAdd Nat Nat Nat (@instHAdd Nat instAddNat) (@HAdd.hAdd Addr Nat Addr (@instHAdd Addr instAddNat) M (1 : Nat)) (1 : Nat)), oc2)] →
      0 ≤ r → oc2.data = .cell (some (.ref std)) → oc3.data = .cell vc3 → os.IsDictOf (PySem.strKind prog w) kvs → (sd == sysModules) = false → valueAt kvs (Str.ofString "one") = some (.ref l1) → valueAt kvs (Str.ofString "two") = some (.ref l2) → IntsAre ys1 ns1 → IntsAre ys2 ns2 → ns1 ≠ [] → ns2 ≠ [] → ost.IsDictOf (PySem.strKind prog w) kst → valueAt kst (Str.ofString "one") = some (.ref sl1) → valueAt kst (Str.ofString "two") = some (.ref sl2) →
      IntsAre vm1 ms1 → IntsAre vm2 ms2 → CvIs cv1 kc1 okc1 k1 → CvIs cv2 kc2 okc2 k2 → AllNe (@HAdd.hAdd Nat Nat Nat (@instHAdd Nat instAddNat) (@HAdd.hAdd Nat Nat Nat (@instHAdd Nat instAddNat) (@HAdd.hAdd Nat Nat Nat (@instHAdd Nat instAddNat) M (1 : Nat)) (1 : Nat)) (1 : Nat)) [(sd, os), (l1, LCg.lst ys1), (l2, LCg.lst ys2), (std, ost), (sl1, listOf [.ref r1, .ref r1'].toArray n1), (sl2, listOf [.ref r2, .ref r2'].toArray n2), (r1, stepObj cv1 lm1), (r2, stepObj cv2 lm2), (lm1, listOf vm1.toArray nm1), (lm2, listOf vm2.toArray nm2), (kc1, okc1), (kc2, okc2), ((@HAdd.hAdd Nat Nat Nat (@instHAdd Nat instAddNat) (@HAdd.hAdd Addr Nat Addr (@instHAdd Addr instAddNat) M (1 : Nat)) (1 : Nat)), oc2)] → Q (.ref l) { s with heap := h' }) :
    wpAny (model prog w) A (newList []) Q E s :=
  newList_K F (news_sub N (List.forall_mem_cons.mpr ⟨msd, List.forall_mem_cons.mpr ⟨ml1, List.forall_mem_cons.mpr ⟨ml2, List.forall_mem_cons.mpr ⟨mst, List.forall_mem_cons.mpr ⟨msl1, List.forall_mem_cons.mpr ⟨msl2, List.forall_mem_cons.mpr ⟨mr1, List.forall_mem_cons.mpr ⟨mr2, List.forall_mem_cons.mpr ⟨mlm1, List.forall_mem_cons.mpr ⟨mlm2, List.forall_mem_cons.mpr ⟨mkc1, List.forall_mem_cons.mpr ⟨mkc2, List.forall_mem_cons.mpr ⟨c3, List.forall_mem_cons.mpr ⟨c2, List.forall_mem_nil _⟩⟩⟩⟩⟩⟩⟩⟩⟩⟩⟩⟩⟩⟩)) (fun l h' F' N' l1 => h l h' F' N' (allNe_lt l1) hr hc2 hc3 hos lo hv1 hv2 hI1 hI2 hn1 hn2 hst hs1 hs2 hm1 hm2 hcv1 hcv2 d3) (Nat.zero_le _)
theorem allNe_addr {d : Addr} : ∀ {l l' : List (Addr × Obj)}, AllNe d l → l.map Prod.fst = l'.map Prod.fst → AllNe d l'
  | [], [], _, _ => trivial
  | _ :: _, [], _, e => by cases e
  | [], _ :: _, _, e => by cases e
  | p :: r, p' :: r', h, e => by
    injection e with e1 e2
    refine ⟨?_, allNe_addr h.2 e2⟩
    have z := h.1
    rw [e1] at z
    exact z
theorem all_of_ne {d : Addr} {l l' : List (Addr × Obj)} (h : AllNe d l) (e : l.map Prod.fst = l'.map Prod.fst) : ∀ p ∈ l', @Ne Nat p.1 d := fun _ hp => allNe_mem (allNe_addr h e) hp
theorem off3_of {I C D : Addr} : ∀ {l : List (Addr × Obj)}, AllNe I l → AllNe C l → AllNe D l → LCg.Off3 I C D l
  | [], _, _, _ => trivial
  | _ :: _, h1, h2, h3 => ⟨⟨h1.1, h2.1, h3.1⟩, off3_of h1.2 h2.2 h3.2⟩
theorem off3_addr {I C D : Addr} {l1 l2 l3 l : List (Addr × Obj)} (h1 : AllNe I l1) (h2 : AllNe C l2) (h3 : AllNe D l3) (e1 : l1.map Prod.fst = l.map Prod.fst) (e2 : l2.map Prod.fst = l.map Prod.fst) (e3 : l3.map Prod.fst = l.map Prod.fst) : LCg.Off3 I C D l := off3_of (allNe_addr h1 e1) (allNe_addr h2 e2) (allNe_addr h3 e3)
/-- a turn of a comprehension ends after an on_ack -/
theorem comp_end_ack {I C D kb' kb kc : Addr} {oI oC oD ob' ob oc : Obj} {S : List (Addr × Obj) → Prop} {rest : Value → List (Addr × Obj) → Prop} {y : Value} {h' : Heap} {tk : Nat} {news0 news1 : List (Addr × Obj)} (F : Fr h₀ L h' m) (N : News h₀ L h' ((kb', ob') :: (I, oI) :: (C, oC) :: (D, oD) :: news1)) (he : Either kb' kb kc) (h1 : AllNe I news0) (h2 : AllNe C news0) (h3 : AllNe D news0) (e : news0.map Prod.fst = news1.map Prod.fst) (m1 : (kb, ob) ∈ news0) (m2 : (kc, oc) ∈ news0)
    (hS : S ((kb', ob') :: news1)) (r : rest y ((kb', ob') :: news1)) : LCg.CompEnd h₀ L m s I oI C oC D oD S rest y { s with heap := h', toks := tk } := by
  have d : ∀ {X : Addr}, AllNe X news0 → @Ne Nat kb' X := fun {X} h => Dif.either he (Dif.newL h m1) (Dif.newL h m2)
  refine LCg.CompEnd.intro F N ((kb', ob') :: news1) (fun p hp => ?_) ⟨⟨d h1, d h2, d h3⟩, off3_addr h1 h2 h3 e e e⟩ hS r
  simp only [List.mem_cons] at hp ⊢
  rcases hp with rfl | rfl | rfl | rfl | hp
  · exact .inr (.inl rfl)
  · exact .inr (.inr (.inl rfl))
  · exact .inr (.inr (.inr (.inl rfl)))
  · exact .inl rfl
  · exact .inr (.inr (.inr (.inr hp)))
theorem bne_off {st : Str} (h : (st != Str.ofString "failed") = true) : (st == failedS) = false := by
  have h' : (!(st == Str.ofString "failed")) = true := h
  cases hb : (st == Str.ofString "failed") with
  | true => rw [hb] at h'; cases h'
  | false => rfl
theorem told_some2 {A : Around} {T T' R p1 p2 R' q1 q2 : Addr} {news : List (Addr × Obj)} {st st' : Str} {n n' : Int} {w0 w0' t t' v a1 a2 a3 a4 a5 a6 v' b1 b2 b3 b4 b5 b6 : Tok} {z1 o1 c1 z2 o2 c2 z1' o1' c1' z2' o2' c2' : Int} (N : News h₀ L s.heap news) (mT : (T, toldObj st w0 (.ref R) (.int n t)) ∈ news) (mT' : (T', toldObj st' w0' (.ref R') (.int n' t')) ∈ news)
    (mR : (R, tupAll st p1 p2 v) ∈ news) (m1 : (p1, tup3 z1 o1 c1 a1 a2 a3) ∈ news) (m2 : (p2, tup3 z2 o2 c2 a4 a5 a6) ∈ news)
    (mR' : (R', tupAll st' q1 q2 v') ∈ news) (m1' : (q1, tup3 z1' o1' c1' b1 b2 b3) ∈ news) (m2' : (q2, tup3 z2' o2' c2' b4 b5 b6) ∈ news) (hq : st' = st ∧ z1' = z1 ∧ o1' = o1 ∧ c1' = c1 ∧ z2' = z2 ∧ o2' = o2 ∧ c2' = c2) (hn : n = n') (hs : PyData.strOk st = true) (hu : A.units + 64 < cLine) (h : Q (.bool true) s) : wpAny (model prog w) A (compareOp .Eq (.ref T) (.ref T')) Q E s := by
  obtain ⟨rfl, rfl, rfl, rfl, rfl, rfl, rfl⟩ := hq
  exact told_some N mT mT' mR m1 m2 mR' m1' m2' hn hs hu h
theorem told_none2 {A : Around} {T T' : Addr} {news : List (Addr × Obj)} {st st' : Str} {w0 w0' : Tok} (N : News h₀ L s.heap news) (mT : (T, toldObj st w0 .none .none) ∈ news) (mT' : (T', toldObj st' w0' .none .none) ∈ news)
    (hq : st' = st) (hs : PyData.strOk st = true) (hu : A.units + 64 < cLine) (h : Q (.bool true) s) : wpAny (model prog w) A (compareOp .Eq (.ref T) (.ref T')) Q E s := by
  subst hq
  exact told_none N mT mT' hs hu h
theorem bne_to {sd sb : Str} (e : sd = sb) (h : (sb != Str.ofString "failed") = true) : (sd != Str.ofString "failed") = true := by rw [e]; exact h
theorem bne_f_to {sd sb : Str} (e : sd = sb) (h : (sb != Str.ofString "failed") = false) : (sd != Str.ofString "failed") = false := by rw [e]; exact h
theorem swap_all {P : Prop} {st sa sb sc sd : Str} {za oa ca zb ob cb zc oc cc zd od cd s1 o1 s2 o2 n12 n11 n22 n21 : Int} {k1 k2 : Option C3}
    (h4 : Acked sc 0 0 0 k1 n12 n11 s1 o1 sd zd od cd) (h3 : Acked st 0 0 0 k2 n22 n21 s2 o2 sc zc oc cc) (h1 : Acked st 0 0 0 k1 n12 n11 s1 o1 sa za oa ca) (h2 : Acked sa 0 0 0 k2 n22 n21 s2 o2 sb zb ob cb)
    (hs : (st == failedS) = false) (hf : (sb == failedS) = false) (k : (sd = sb ∧ zd = za ∧ od = oa ∧ cd = ca ∧ zc = zb ∧ oc = ob ∧ cc = cb) → cd = ca → cc = cb → (sd != Str.ofString "failed") = true → P) : P :=
  swap_elim h4 h3 h2 h1 hs hf (fun a b c d e f g => k ⟨a, b, c, d, e, f, g⟩ d g (by
    rw [a]
    show (!(sb == failedS)) = true
    rw [hf]
    rfl))
theorem sub_str {A : Around} {value slice : Expr} {d : Addr} {o : Obj} {kvs : List (Str × Value)} {k : Str} {u : Tok} {v : Value} {news : List (Addr × Obj)} (N : News h₀ L s.heap news) (hp : (d, o) ∈ news) (hd : o.IsDictOf (PySem.strKind prog w) kvs) (hl : valueAt kvs k = some v) (h : Q v { s with toks := s.toks + 1 })
    (hs : subscripted slice false (.ref d) (.str k u) = operate [.ref d, .str k u] (getItem (.ref d) (.str k u))) (hg : ∀ r, letTemporaryGo value (.ref d) r = pure ()) :
    wpAny (model prog w) A (subscriptTail value slice (.ref d) (.str k u)) Q E s := kda_item (knd := PySem.strKind _ _) N hp hd (strKind_is _ _ _ _) hl h hs hg
theorem sub_lst {A : Around} {value slice : Expr} {a : Addr} {xs : List Value} {n : Nat} {k : Int} {u : Tok} {v : Value} {news : List (Addr × Obj)} (N : News h₀ L s.heap news) (hp : (a, listOf xs.toArray n) ∈ news) (h0 : 0 ≤ k) (hfit : k < 2 ^ 63) (hx : xs[k.toNat]? = some v) (h : Q v s)
    (hs : subscripted slice false (.ref a) (.int k u) = operate [.ref a, .int k u] (getItem (.ref a) (.int k u))) :
    wpAny (model prog w) A (subscriptTail value slice (.ref a) (.int k u)) Q E s :=
  have hl : s.heap.IsList a xs.toArray := ⟨_, (N _ hp).1, rfl, _, rfl⟩
  tail_any hl.typeIs slot_list_getitem.lookup (wpAny_getItem_list hl h0 hfit (by simpa using hx) h) hs
theorem sub_tup {A : Around} {value slice : Expr} {a : Addr} {xs : List Value} {n : Nat} {k : Int} {u : Tok} {j : Nat} {v : Value} {news : List (Addr × Obj)} (N : News h₀ L s.heap news) (hp : (a, ({ cls := .type "tuple", data := .seq xs.toArray n } : Obj)) ∈ news) (hlo : -(2 ^ 63) ≤ k) (hhi : k < 2 ^ 63) (hj : seqIndex? k xs.length = some j) (hx : xs[j]? = some v) (h : Q v s)
    (hs : subscripted slice false (.ref a) (.int k u) = operate [.ref a, .int k u] (getItem (.ref a) (.int k u))) :
    wpAny (model prog w) A (subscriptTail value slice (.ref a) (.int k u)) Q E s := item_tupleT ⟨_, (N _ hp).1, rfl, _, rfl⟩ hlo hhi hj hx h hs

end
section
variable {prog : Program} {w : World} {p : Program} {loose : List Str} {mean : ExcName → Option Value} {mg mb : Str → Option Value}
  {dp un : Nat} {gd : Option (List Code)} {cn : Str} {cs : Scope} {a : Addr} {ccd : Value} {cl : List (Str × Addr)} {outer : List Env} {A₀ : Around} {base h₀ : Heap} {L : Addr} {m : Str → Option Value} {s : Shared} {Q E : Value → Shared → Prop}

local macro_rules | `(tactic| k_ne) => `(tactic| (refine neN ?_; (try dsimp only); first | exact Dif.out (by with_reducible assumption) | exact Dif.swap (by with_reducible assumption) | (apply Dif.newR; (with_reducible assumption); (focus walk_at "my in")) | (apply Dif.newL; (with_reducible assumption); (focus walk_at "my in")) | (apply Dif.either; (with_reducible assumption); (focus k_ne); (focus k_ne)) | (refine' Ne.symm (Dif.either ?nA ?nB ?nC); (case nA => with_reducible assumption); (case nB => k_ne); (case nC => k_ne)) | (apply Dif.born; (with_reducible assumption); (focus walk_at "my in"); (focus k_ne)) | (refine' Ne.symm (Dif.born ?nA ?nB ?nC); (case nA => with_reducible assumption); (case nB => walk_at "my in"); (case nC => k_ne)) | omega | (apply Dif.newL; (with_reducible assumption); (focus walk_at "my inp")) | (apply Dif.newR; (with_reducible assumption); (focus walk_at "my inp")) | (apply tup_list_ne; k_asm; (focus walk_at "my in"); (focus walk_at "my in")) | (refine' Ne.symm (tup_list_ne ?nA ?nB ?nC); (case nA => k_asm); (case nB => walk_at "my in"); (case nC => walk_at "my in")) | (apply tup_cell_ne; k_asm; (focus walk_at "my in"); (focus walk_at "my in"); (with_reducible assumption)) | (refine' Ne.symm (tup_cell_ne ?nA ?nB ?nC ?nD); (case nA => k_asm); (case nB => walk_at "my in"); (case nC => walk_at "my in"); (case nD => with_reducible assumption))))
local macro_rules | `(tactic| k_lt $h:ident) => `(tactic| (replace $h := allNe_lt $h))
local macro_rules | `(tactic| k_all) => `(tactic| first | exact List.forall_mem_nil _ | (refine' List.forall_mem_cons.mpr ⟨?a, ?b⟩; (case a => k_ne); (case b => k_all)))

local macro_rules | `(tactic| walk_at "my allne") => `(tactic| first | exact trivial | with_reducible assumption | (refine And.intro ?apA ?apB; (case apA => exact Dif.mk (by k_ne)); (case apB => walk_at "my allne")))
local macro_rules | `(tactic| walk_at "my at") => `(tactic| first | exact rfl | with_reducible assumption | exact valueAt_stored | exact (valueAt_stored_ne (by decide)).trans valueAt_stored)

local macro_rules | `(tactic| walk_at "my cnt") => `(tactic| first | with_reducible assumption | exact cntIs_to (by with_reducible assumption) (by with_reducible assumption) (by decide))
local macro_rules | `(tactic| walk_at "my cntAt") => `(tactic| first | exact cntAt_is (by with_reducible assumption) (by k_mem) | exact cntAt_is (cntIs_to (by with_reducible assumption) (by with_reducible assumption) (by decide)) (by k_mem))
local macro_rules | `(tactic| walk_at "my chain") => `(tactic| first | ((apply swap_all; (with_reducible assumption); (with_reducible assumption); (with_reducible assumption); (with_reducible assumption); exact stOf_ok'; (focus exact bne_off (by with_reducible assumption))); intro e91 e92 e93 e94) | ((refine' swap_elim_st ?h4 ?h3 ?h2 ?h1 ?hs ?_; (case h4 => with_reducible assumption); (case h3 => with_reducible assumption); (case h1 => with_reducible assumption); (case h2 => with_reducible assumption); (case hs => exact stOf_ok')); intro e91; (have e92 := bne_f_to e91 (by with_reducible assumption))))

local macro_rules | `(tactic| k_all) => `(tactic| (apply all_of_ne; (with_reducible assumption); exact rfl))

@[reducible] def stopsLaw (n : Nat) : Prop := n = 101 ∨ n = 120 ∨ n = 82 ∨ n = 108 ∨ n = 115 ∨ n = 96
local macro_rules | `(tactic| walk_at "call ref") => `(tactic| k_dflt (refine stopCall (P := stopsLaw) (by decide) ?_))
local macro_rules | `(tactic| walk_at "newTuple") => `(tactic| refine stop ?_)
local macro_rules | `(tactic| walk_at "newList") => `(tactic| refine stop ?_)
local macro_rules | `(tactic| walk_at "FinE") => `(tactic| refine stop ?_)
local macro_rules | `(tactic| walk_at "CompSrc") => `(tactic| refine stop ?_)
local macro_rules | `(tactic| walk_at "eval IfExp") => `(tactic| refine stopIf ?_)
local macro_rules | `(tactic| walk_at "compareOp Is") => `(tactic| refine stop ?_)
local macro_rules | `(tactic| walk_at "CompRest") => `(tactic| refine stop ?_)
local macro_rules | `(tactic| walk_at "eval ListComp") => `(tactic| refine stopLc ?_)
local macro_rules | `(tactic| walk_at "compareOp Eq ref ref") => `(tactic| refine stop ?_)
local macro_rules | `(tactic| walk_at "subscriptTail Name Name ref str") => `(tactic| refine stop ?_)
local macro_rules | `(tactic| walk_at "subscriptTail Subscript Name Name") => `(tactic| refine stop ?_)
local macro_rules | `(tactic| walk_at "subscriptTail Subscript Subscript Constant") => `(tactic| refine stop ?_)
local macro_rules | `(tactic| walk_at "CompEnd") => `(tactic| refine stop ?_)
theorem law_holds : PySem.Challenge.rw_sa0563_01.Holds := Mine.hd (by
  k_go0
  (all_goals try k_fold)
  repeat' (first | ((with_reducible refine go ?_); (first | ((k_dflt (apply comp_end_ack; k_asm; k_asm; (with_reducible assumption); (with_reducible assumption); (with_reducible assumption); (with_reducible assumption); exact rfl; (focus k_mem); (focus k_mem); (focus lcg_src)))) | ((k_here; (with_reducible show wpAny _ _ (subscriptTail _ _ (Value.ref _) (Value.int _ _)) _ _ _); k_dflt (refine' sub_tup ?NQ20 ?hpQ20 ?h0Q20 ?h1Q20 ?hjQ20 ?hxQ20 ?_ ?hsQ20; (case NQ20 => k_asm); (case hpQ20 => k_mem); (case h0Q20 => decide); (case h1Q20 => decide); (case hjQ20 => rfl); (case hxQ20 => rfl); (case hsQ20 => with_unfolding_all rfl); k_whole))) | ((k_here; (with_reducible show wpAny _ _ (subscriptTail _ _ (Value.ref _) (Value.int _ _)) _ _ _); k_dflt (refine' sub_lst ?NQ19 ?hpQ19 ?h0Q19 ?h1Q19 ?hxQ19 ?_ ?hsQ19; (case NQ19 => k_asm); (case hpQ19 => k_mem); (case h0Q19 => decide); (case h1Q19 => decide); (case hxQ19 => rfl); (case hsQ19 => with_unfolding_all rfl); k_whole))) | ((k_here; k_dflt (refine' sub_str ?NQ18 ?hpQ18 ?hdQ18 ?hlQ18 ?_ ?hsQ18 ?hgQ18; (case NQ18 => k_asm); (case hpQ18 => k_mem); (case hdQ18 => k_asm); (case hlQ18 => walk_at "my at"); (case hsQ18 => with_unfolding_all rfl); (case hgQ18 => (intro _; with_unfolding_all rfl))))) | ((k_here; (with_reducible show wpAny _ _ (newList []) _ _ _); k_dflt (apply told_start; k_asm; k_asm; exact rfl; exact rfl; (with_reducible assumption); (focus k_mem); (focus k_mem); (with_reducible assumption); (with_reducible assumption); (focus k_mem); k_asm; k_asm; (focus walk_at "my at"); (focus walk_at "my at"); (focus k_mem); (focus k_mem); (with_reducible assumption); (with_reducible assumption); (with_reducible assumption); (with_reducible assumption); (focus k_mem); k_asm; (focus walk_at "my at"); (focus walk_at "my at"); (focus k_mem); (focus k_mem); (focus k_mem); (focus k_mem); (focus k_mem); (focus k_mem); (with_reducible assumption); (with_reducible assumption); (with_reducible assumption); (with_reducible assumption); (focus k_mem); (focus k_mem); (focus walk_at "my allne")); (repeat (rename AllNe _ _ => zz; clear zz)); (repeat (rename Dif _ _ => zz; clear zz)); (repeat (rename Kept _ _ _ => zz; clear zz)); (repeat (rename News _ _ _ _ => zz; clear zz)); (repeat (rename Fr _ _ _ _ => zz; clear zz)); (repeat (rename Born _ _ _ => zz; clear zz)); (repeat (rename IntsAre _ _ => zz; clear zz)); (repeat (rename PyProof.V.FlatPairs _ => zz; clear zz)); (repeat (rename PySem.Obj.IsDictOf _ _ _ => zz; clear zz)); (repeat (rename CvIs _ _ _ _ => zz; clear zz)); (repeat (rename LE.le _ _ => zz; clear zz)); (repeat (rename LT.lt _ _ => zz; clear zz)); intro l' h' F' N' l1 hr9 hc29 hc39 hos9 lo9 hv19 hv29 hI19 hI29 hn19 hn29 hst9 hs19 hs29 hm19 hm29 hcv19 hcv29 d39)) | ((k_here; (with_reducible show wpAny _ _ (compareOp CmpOp.Eq (Value.ref _) (Value.ref _)) _ _ _); k_dflt (apply told_none2; k_asm; (focus k_mem); (focus k_mem); (with_reducible assumption); (with_reducible assumption); (focus first | units_room | exact Nat.le_of_ble_eq_true rfl | decide)); (try dsimp only))) | ((k_here; (with_reducible show wpAny _ _ (compareOp CmpOp.Eq (Value.ref _) (Value.ref _)) _ _ _); k_dflt (apply told_some2; k_asm; (focus k_mem); (focus k_mem); (focus k_mem); (focus k_mem); (focus k_mem); (focus k_mem); (focus k_mem); (focus k_mem); (with_reducible assumption); omega; (with_reducible assumption); (focus first | units_room | exact Nat.le_of_ble_eq_true rfl | decide)); (try dsimp only))) | ((k_here; (with_reducible show wpAny _ _ (call (Value.ref 115) [Value.ref _]) _ _ _); k_dflt (apply all_spec (u := ⟨_, _, _, _, _, _, _, _⟩); walk_at "my six"; (focus k_mem); (focus k_mem); (focus k_mem); k_asm; k_asm; walk_at "my le"; (focus walk_at "my cntAt"); (focus walk_at "my cntAt"); (focus ktr_room)); intro R9 p19 p29 v9 a19 a29 a39 a49 a59 a69 h9 tk9 a9 F9 N9; clear a9; (try dsimp only))) | ((k_here; (with_reducible show wpAny _ _ (eval (Expr.ListComp _ [⟨Expr.Name _ _, Expr.Name _ _, _, _⟩] _ _) _) _ _ _); k_dflt (refine' ListComp_tup ?hhQ13 ?FQ13 ?NQ13 ?hmQ13 ?hclosQ13 ?hcellQ13 ?hkindQ13 ?hnamesQ13 ?hxQ13 ?hszQ13 ?hordQ13 ?hQ13 ?_; (case hhQ13 => rfl); (case FQ13 => k_asm); (case NQ13 => k_asm); (case hordQ13 => exact rfl); (case hQ13 => ((repeat' (first | ((with_reducible refine go ?_); (first | ((k_dflt (apply comp_end_ack; k_asm; k_asm; (with_reducible assumption); (with_reducible assumption); (with_reducible assumption); (with_reducible assumption); exact rfl; (focus k_mem); (focus k_mem); (focus lcg_src)))) | ((k_here; (with_reducible show wpAny _ _ (subscriptTail _ _ (Value.ref _) (Value.int _ _)) _ _ _); k_dflt (refine' sub_tup ?NQ20 ?hpQ20 ?h0Q20 ?h1Q20 ?hjQ20 ?hxQ20 ?_ ?hsQ20; (case NQ20 => k_asm); (case hpQ20 => k_mem); (case h0Q20 => decide); (case h1Q20 => decide); (case hjQ20 => rfl); (case hxQ20 => rfl); (case hsQ20 => with_unfolding_all rfl); k_whole))) | ((k_here; (with_reducible show wpAny _ _ (subscriptTail _ _ (Value.ref _) (Value.int _ _)) _ _ _); k_dflt (refine' sub_lst ?NQ19 ?hpQ19 ?h0Q19 ?h1Q19 ?hxQ19 ?_ ?hsQ19; (case NQ19 => k_asm); (case hpQ19 => k_mem); (case h0Q19 => decide); (case h1Q19 => decide); (case hxQ19 => rfl); (case hsQ19 => with_unfolding_all rfl); k_whole))) | ((k_here; k_dflt (refine' sub_str ?NQ18 ?hpQ18 ?hdQ18 ?hlQ18 ?_ ?hsQ18 ?hgQ18; (case NQ18 => k_asm); (case hpQ18 => k_mem); (case hdQ18 => k_asm); (case hlQ18 => walk_at "my at"); (case hsQ18 => with_unfolding_all rfl); (case hgQ18 => (intro _; with_unfolding_all rfl))))) | ((k_here; (with_reducible show wpAny _ _ (newList []) _ _ _); k_dflt (apply told_start; k_asm; k_asm; exact rfl; exact rfl; (with_reducible assumption); (focus k_mem); (focus k_mem); (with_reducible assumption); (with_reducible assumption); (focus k_mem); k_asm; k_asm; (focus walk_at "my at"); (focus walk_at "my at"); (focus k_mem); (focus k_mem); (with_reducible assumption); (with_reducible assumption); (with_reducible assumption); (with_reducible assumption); (focus k_mem); k_asm; (focus walk_at "my at"); (focus walk_at "my at"); (focus k_mem); (focus k_mem); (focus k_mem); (focus k_mem); (focus k_mem); (focus k_mem); (with_reducible assumption); (with_reducible assumption); (with_reducible assumption); (with_reducible assumption); (focus k_mem); (focus k_mem); (focus walk_at "my allne")); (repeat (rename AllNe _ _ => zz; clear zz)); (repeat (rename Dif _ _ => zz; clear zz)); (repeat (rename Kept _ _ _ => zz; clear zz)); (repeat (rename News _ _ _ _ => zz; clear zz)); (repeat (rename Fr _ _ _ _ => zz; clear zz)); (repeat (rename Born _ _ _ => zz; clear zz)); (repeat (rename IntsAre _ _ => zz; clear zz)); (repeat (rename PyProof.V.FlatPairs _ => zz; clear zz)); (repeat (rename PySem.Obj.IsDictOf _ _ _ => zz; clear zz)); (repeat (rename CvIs _ _ _ _ => zz; clear zz)); (repeat (rename LE.le _ _ => zz; clear zz)); (repeat (rename LT.lt _ _ => zz; clear zz)); intro l' h' F' N' l1 hr9 hc29 hc39 hos9 lo9 hv19 hv29 hI19 hI29 hn19 hn29 hst9 hs19 hs29 hm19 hm29 hcv19 hcv29 d39)) | ((k_here; (with_reducible show wpAny _ _ (compareOp CmpOp.Eq (Value.ref _) (Value.ref _)) _ _ _); k_dflt (apply told_none2; k_asm; (focus k_mem); (focus k_mem); (with_reducible assumption); (with_reducible assumption); (focus first | units_room | exact Nat.le_of_ble_eq_true rfl | decide)); (try dsimp only))) | ((k_here; (with_reducible show wpAny _ _ (compareOp CmpOp.Eq (Value.ref _) (Value.ref _)) _ _ _); k_dflt (apply told_some2; k_asm; (focus k_mem); (focus k_mem); (focus k_mem); (focus k_mem); (focus k_mem); (focus k_mem); (focus k_mem); (focus k_mem); (with_reducible assumption); omega; (with_reducible assumption); (focus first | units_room | exact Nat.le_of_ble_eq_true rfl | decide)); (try dsimp only))) | ((k_here; (with_reducible show wpAny _ _ (call (Value.ref 115) [Value.ref _]) _ _ _); k_dflt (apply all_spec (u := ⟨_, _, _, _, _, _, _, _⟩); walk_at "my six"; (focus k_mem); (focus k_mem); (focus k_mem); k_asm; k_asm; walk_at "my le"; (focus walk_at "my cntAt"); (focus walk_at "my cntAt"); (focus ktr_room)); intro R9 p19 p29 v9 a19 a29 a39 a49 a59 a69 h9 tk9 a9 F9 N9; clear a9; (try dsimp only))) | ((k_here; (with_reducible show wpAny _ _ (eval (Expr.ListComp _ [⟨Expr.Name _ _, Expr.Name _ _, _, _⟩] _ _) _) _ _ _); k_dflt (refine' ListComp_tup ?hhQ13 ?FQ13 ?NQ13 ?hmQ13 ?hclosQ13 ?hcellQ13 ?hkindQ13 ?hnamesQ13 ?hxQ13 ?hszQ13 ?hordQ13 ?hQ13 ?_; (case hhQ13 => rfl); (case FQ13 => k_asm); (case NQ13 => k_asm); (case hordQ13 => exact rfl); (case hQ13 => (k_steps; (all_goals (first | exact rfl | exact ⟨_, rfl⟩ | exact ⟨rfl, _, rfl⟩)))); (case hmQ13 => k_mem); (case hclosQ13 => with_unfolding_all rfl); (case hcellQ13 => decide); (case hkindQ13 => rfl); (case hnamesQ13 => decide); (case hxQ13 => rfl); (case hszQ13 => exact Nat.le_of_ble_eq_true rfl)); intro g9 tk9; k_dflt lcg_lit)) | ((k_dflt (refine LCg.CompRest.succ ?_); intro v' I' oI' C' oC' D' m' h' tk' E' hv' hC' hx' F' N' off' ne'; lcg_open hv'; (replace off' := off3_dif off'); (replace ne' := dif3 ne'); (have hof1 := And.left off'); (have hof2 := And.left (And.right off')); (have hof3 := And.right (And.right off')); clear off'; (have hne1 := And.left ne'); (have hne2 := And.left (And.right ne')); (have hne3 := And.right (And.right ne')); clear ne')) | ((k_here; (with_reducible show wpAny _ _ (call (Value.ref 108) [Value.ref _, Value.int _ _]) _ _ _); k_dflt (apply beg_specT; walk_at "my six"; (focus k_mem); k_asm; k_asm; (focus walk_at "my at"); (focus walk_at "my at"); (focus k_mem); (focus k_mem); (focus l_ints); (focus l_ints); (with_reducible assumption); (with_reducible assumption); (focus ktr_room); walk_at "my le"); intro x9 dx9 ds9 dc9 ta9 tb9 oS9 oC9 kvS9 v29 v39 a19 a29 a39 a49 u9 h9 tk9 p19 p29 p39 p49 f19 f29 f39 f49 f59 f69 ap9 lo9 lo29 hS9 hva9 hvb9 hca9 hcb9 hC9 F9 N9; (simp only [Apart, NeAll, and_true, and_assoc] at ap9); (repeat (have hdf := And.left ap9; replace ap9 := And.right ap9)); (try dsimp only))) | ((k_here; (with_reducible show wpAny _ _ (call (Value.ref 82) [Value.ref _, Value.str _ _, _, Value.ref _, Value.bool true]) _ _ _); k_dflt (apply ack_any (u := ⟨_, _, _, _, _, _, _, _⟩); walk_at "my six"; (with_reducible assumption); (focus k_mem); (focus k_mem); (focus k_updF); (focus intro _; k_updF); (focus k_mem); k_asm; k_asm; k_asm; k_asm; (focus walk_at "my at"); (focus k_mem); (focus walk_at "my cnt"); (focus k_mem); (focus k_mem); walk_at "my le"; (focus l_ints); (focus walk_at "my dif"); (focus walk_at "my dif"); (focus walk_at "my dif"); (focus ktr_room); walk_at "my le"; walk_at "my le"; walk_at "my le"); intro st9 oC9 ob9 ck9 kb9 z9 o9 c9 r9 v9 tr9 h9 tk9 hA9 e19 e29 e39 e49 e59 e69 er9 ei9 hC9 hq9 hl9 hd9 hw9 F9 N9; clear hw9; (have hok9 := strOk_acked hA9 (by first | with_reducible assumption | exact strOk_stOf)); subst er9; (try dsimp only at N9); (try dsimp only at hl9); (try simp only [List.length_nil, Nat.zero_add] at hl9); (try walk_at "my chain"); (try dsimp only))) | ((k_here; (with_reducible show wpAny _ _ (call (Value.ref 120) [Value.ref _, Value.int _ _, Value.str _ _, Value.ref _]) _ _ _); k_dflt (refine' right_any ?BQ9 ?FQ9 ?XQ9 ?NQ9 ?TQ9 ?hkQ9 ?msdQ9 ?ml1Q9 ?ml2Q9 ?mslQ9 ?ms1Q9 ?ms2Q9 ?mlm1Q9 ?mlm2Q9 ?hcv1Q9 ?hcv2Q9 ?mkc1Q9 ?mkc2Q9 ?hosQ9 ?loQ9 ?hv1Q9 ?hv2Q9 ?hI1Q9 ?hI2Q9 ?hJ1Q9 ?hJ2Q9 ?hn1Q9 ?hn2Q9 ?hm1Q9 ?hm2Q9 ?hspQ9 ?hdpQ9 ?hunQ9 ?ht0Q9 ?_; (case BQ9 => k_asm); (case FQ9 => k_asm); (case XQ9 => k_asm); (case NQ9 => k_asm); (case TQ9 => k_asm); (case hkQ9 => first | exact rfl | assumption); (case msdQ9 => k_mem); (case hosQ9 => k_asm); (case loQ9 => k_asm); (case hv1Q9 => walk_at "my at"); (case hv2Q9 => walk_at "my at"); (case ml1Q9 => k_mem); (case ml2Q9 => k_mem); (case mslQ9 => k_mem); (case ms1Q9 => k_mem); (case ms2Q9 => k_mem); (case mlm1Q9 => k_mem); (case mlm2Q9 => k_mem); (case hcv1Q9 => with_reducible assumption); (case hcv2Q9 => with_reducible assumption); (case mkc1Q9 => k_mem); (case mkc2Q9 => k_mem); (case hI1Q9 => l_ints); (case hI2Q9 => l_ints); (case hJ1Q9 => l_ints); (case hJ2Q9 => l_ints); (case hn1Q9 => with_reducible assumption); (case hn2Q9 => with_reducible assumption); (case hm1Q9 => with_reducible assumption); (case hm2Q9 => with_reducible assumption); (case hspQ9 => first | exact Or.inl rfl | exact Or.inr rfl); (case hdpQ9 => ktr_room); (case hunQ9 => first | exact Nat.le_of_ble_eq_true rfl | decide | (have hcL := cLine_is; omega)); (case ht0Q9 => omega)); intro h9 tk9 F9 N9; (try dsimp only))) | ((k_here; (with_reducible show wpAny _ _ (call (Value.ref 101) [Value.ref _, Value.ref _]) _ _ _); k_dflt (apply lstep_any; walk_at "my six"; (focus k_updF); (focus k_mem); (focus k_mem); (focus l_ints); walk_at "my le"; (focus walk_at "my dif"); (focus ktr_room); omega; omega); intro R9 lm9 kc9 oc9 cv9 k9 vs9 ns9 p9 t9 nb9 h9 tk9 hI9 hl9 hp9 hp99 hc9 f19 f29 f39 F9 N9; (try dsimp only at N9); (try dsimp only))) | ((k_here; (with_reducible show wpAny _ _ (compareOp CmpOp.Is _ Value.none) _ _ _); k_dflt (apply is_none; (with_reducible assumption)); (intro e9; (try dsimp only)); rotate_left; (intro e9; (try dsimp only)); rotate_right)) | ((k_here; (with_reducible show wpAny _ _ (eval (Expr.IfExp (Expr.Compare (Expr.Subscript _ _ _) _ _ _) (Expr.Tuple _ _ _) (Expr.Subscript _ _ _) _) _) _ _ _); k_dflt (refine' before_join ?FQ6 ?hcQ6 ?mcQ6 ?NQ6 ?_ ?_; (case FQ6 => k_asm); (case NQ6 => k_asm); (case hcQ6 => with_reducible assumption); (case mcQ6 => k_mem)); (k_dflt focus ((with_reducible refine IfExp_ ?_); k_steps; (all_goals (first | exact Or.inl ⟨⟨_, by assumption⟩, rfl, _, rfl⟩ | exact Or.inr ⟨_, _, _, _, _, _, _, _, _, rfl, rfl, by walk_at "my allne", by assumption, by assumption⟩)))); intro q9 z19 z29 z39 a19 a29 a39 h9 tk9 hb9 F9 N9; (try dsimp only))) | ((k_here; k_dflt (apply comp_sent; rfl; k_asm; k_asm; assumption; omega; omega; rfl; (focus k_mem); assumption; (focus k_updF); (focus k_mem); (focus walk_at "my dif"); (focus walk_at "my dif")); (k_dflt focus (intro p9 tp9 nb9 C9 oC9 m9 h9 tk9 E9 Qy9 hp9 hp99 hC9 F9 N9 dd1 dd2 dd3 hq9; (try dsimp only); k_steps; (all_goals exact hq9 _ _ _ _ _ _ (menu_at _).1 (menu_at _).2 (by assumption) (news_sub (by assumption) (by lcg_sub)) (Kept.comp (by assumption) (by assumption))))); intro g9 ys9 ns9 p9 tp9 nb9 hI9 hn9 hl9 hv9 hp9 hp99; clear hv9; (try dsimp only))) | ((k_here; k_dflt (apply newList_KK; k_asm; k_asm; k_whole); intro l' h' K' F' N' l1; (replace l1 := allNe_lt l1); (try k_sweep))) | (((unfold LCg.FinE); intro D' h' tk' F' N' o1'; (replace o1' := off1_dif o1'); (try simp only [List.nil_append, List.cons_append] at N'); (try dsimp only))) | ((k_here; k_dflt (apply newList_K; k_asm; k_asm; k_whole); intro l' h' F' N' l1; (replace l1 := allNe_lt l1); (try k_sweep))) | ((k_here; k_dflt (refine' kup_newTuple ?FQ1 ?NQ1 ?_ ?zQ1; (case FQ1 => k_asm); (case NQ1 => k_asm); (case zQ1 => kmk_size)); intro D' h' F' N' l1; (replace l1 := allNe_lt l1); (try k_sweep))) | ((k_here; (with_reducible show wpAny _ _ (call (Value.ref 96) [Value.ref _, Value.int _ _]) _ _ _); k_dflt (apply take_spec; walk_at "my six"; (focus k_updF); (focus k_mem); (focus l_ints); walk_at "my le"; (focus k_ne); (focus ktr_room); omega; omega; omega; omega); intro r9 t9 u9 h9 tk9 nb9 r0 r1 F9 N9 K9; (try dsimp only at N9); (try dsimp only); (try k_sweep); (try k_fold))))) | (k_unfold; (try dsimp only)) | (k_end; kc_close) | walk1 | (dsimp only; walk1) | (leave1; (try dsimp only)) | fail "no step")); (all_goals (first | exact rfl | exact ⟨_, rfl⟩ | exact ⟨rfl, _, rfl⟩)))); (case hmQ13 => k_mem); (case hclosQ13 => with_unfolding_all rfl); (case hcellQ13 => decide); (case hkindQ13 => rfl); (case hnamesQ13 => decide); (case hxQ13 => rfl); (case hszQ13 => exact Nat.le_of_ble_eq_true rfl)); intro g9 tk9; k_dflt lcg_lit)) | ((k_dflt (refine LCg.CompRest.succ ?_); intro v' I' oI' C' oC' D' m' h' tk' E' hv' hC' hx' F' N' off' ne'; lcg_open hv'; (replace off' := off3_dif off'); (replace ne' := dif3 ne'); (have hof1 := And.left off'); (have hof2 := And.left (And.right off')); (have hof3 := And.right (And.right off')); clear off'; (have hne1 := And.left ne'); (have hne2 := And.left (And.right ne')); (have hne3 := And.right (And.right ne')); clear ne')) | ((k_here; (with_reducible show wpAny _ _ (call (Value.ref 108) [Value.ref _, Value.int _ _]) _ _ _); k_dflt (apply beg_specT; walk_at "my six"; (focus k_mem); k_asm; k_asm; (focus walk_at "my at"); (focus walk_at "my at"); (focus k_mem); (focus k_mem); (focus l_ints); (focus l_ints); (with_reducible assumption); (with_reducible assumption); (focus ktr_room); walk_at "my le"); intro x9 dx9 ds9 dc9 ta9 tb9 oS9 oC9 kvS9 v29 v39 a19 a29 a39 a49 u9 h9 tk9 p19 p29 p39 p49 f19 f29 f39 f49 f59 f69 ap9 lo9 lo29 hS9 hva9 hvb9 hca9 hcb9 hC9 F9 N9; (simp only [Apart, NeAll, and_true, and_assoc] at ap9); (repeat (have hdf := And.left ap9; replace ap9 := And.right ap9)); (try dsimp only))) | ((k_here; (with_reducible show wpAny _ _ (call (Value.ref 82) [Value.ref _, Value.str _ _, _, Value.ref _, Value.bool true]) _ _ _); k_dflt (apply ack_any (u := ⟨_, _, _, _, _, _, _, _⟩); walk_at "my six"; (with_reducible assumption); (focus k_mem); (focus k_mem); (focus k_updF); (focus intro _; k_updF); (focus k_mem); k_asm; k_asm; k_asm; k_asm; (focus walk_at "my at"); (focus k_mem); (focus walk_at "my cnt"); (focus k_mem); (focus k_mem); walk_at "my le"; (focus l_ints); (focus walk_at "my dif"); (focus walk_at "my dif"); (focus walk_at "my dif"); (focus ktr_room); walk_at "my le"; walk_at "my le"; walk_at "my le"); intro st9 oC9 ob9 ck9 kb9 z9 o9 c9 r9 v9 tr9 h9 tk9 hA9 e19 e29 e39 e49 e59 e69 er9 ei9 hC9 hq9 hl9 hd9 hw9 F9 N9; clear hw9; (have hok9 := strOk_acked hA9 (by first | with_reducible assumption | exact strOk_stOf)); subst er9; (try dsimp only at N9); (try dsimp only at hl9); (try simp only [List.length_nil, Nat.zero_add] at hl9); (try walk_at "my chain"); (try dsimp only))) | ((k_here; (with_reducible show wpAny _ _ (call (Value.ref 120) [Value.ref _, Value.int _ _, Value.str _ _, Value.ref _]) _ _ _); k_dflt (refine' right_any ?BQ9 ?FQ9 ?XQ9 ?NQ9 ?TQ9 ?hkQ9 ?msdQ9 ?ml1Q9 ?ml2Q9 ?mslQ9 ?ms1Q9 ?ms2Q9 ?mlm1Q9 ?mlm2Q9 ?hcv1Q9 ?hcv2Q9 ?mkc1Q9 ?mkc2Q9 ?hosQ9 ?loQ9 ?hv1Q9 ?hv2Q9 ?hI1Q9 ?hI2Q9 ?hJ1Q9 ?hJ2Q9 ?hn1Q9 ?hn2Q9 ?hm1Q9 ?hm2Q9 ?hspQ9 ?hdpQ9 ?hunQ9 ?ht0Q9 ?_; (case BQ9 => k_asm); (case FQ9 => k_asm); (case XQ9 => k_asm); (case NQ9 => k_asm); (case TQ9 => k_asm); (case hkQ9 => first | exact rfl | assumption); (case msdQ9 => k_mem); (case hosQ9 => k_asm); (case loQ9 => k_asm); (case hv1Q9 => walk_at "my at"); (case hv2Q9 => walk_at "my at"); (case ml1Q9 => k_mem); (case ml2Q9 => k_mem); (case mslQ9 => k_mem); (case ms1Q9 => k_mem); (case ms2Q9 => k_mem); (case mlm1Q9 => k_mem); (case mlm2Q9 => k_mem); (case hcv1Q9 => with_reducible assumption); (case hcv2Q9 => with_reducible assumption); (case mkc1Q9 => k_mem); (case mkc2Q9 => k_mem); (case hI1Q9 => l_ints); (case hI2Q9 => l_ints); (case hJ1Q9 => l_ints); (case hJ2Q9 => l_ints); (case hn1Q9 => with_reducible assumption); (case hn2Q9 => with_reducible assumption); (case hm1Q9 => with_reducible assumption); (case hm2Q9 => with_reducible assumption); (case hspQ9 => first | exact Or.inl rfl | exact Or.inr rfl); (case hdpQ9 => ktr_room); (case hunQ9 => first | exact Nat.le_of_ble_eq_true rfl | decide | (have hcL := cLine_is; omega)); (case ht0Q9 => omega)); intro h9 tk9 F9 N9; (try dsimp only))) | ((k_here; (with_reducible show wpAny _ _ (call (Value.ref 101) [Value.ref _, Value.ref _]) _ _ _); k_dflt (apply lstep_any; walk_at "my six"; (focus k_updF); (focus k_mem); (focus k_mem); (focus l_ints); walk_at "my le"; (focus walk_at "my dif"); (focus ktr_room); omega; omega); intro R9 lm9 kc9 oc9 cv9 k9 vs9 ns9 p9 t9 nb9 h9 tk9 hI9 hl9 hp9 hp99 hc9 f19 f29 f39 F9 N9; (try dsimp only at N9); (try dsimp only))) | ((k_here; (with_reducible show wpAny _ _ (compareOp CmpOp.Is _ Value.none) _ _ _); k_dflt (apply is_none; (with_reducible assumption)); (intro e9; (try dsimp only)); rotate_left; (intro e9; (try dsimp only)); rotate_right)) | ((k_here; (with_reducible show wpAny _ _ (eval (Expr.IfExp (Expr.Compare (Expr.Subscript _ _ _) _ _ _) (Expr.Tuple _ _ _) (Expr.Subscript _ _ _) _) _) _ _ _); k_dflt (refine' before_join ?FQ6 ?hcQ6 ?mcQ6 ?NQ6 ?_ ?_; (case FQ6 => k_asm); (case NQ6 => k_asm); (case hcQ6 => with_reducible assumption); (case mcQ6 => k_mem)); (k_dflt focus ((with_reducible refine IfExp_ ?_); (repeat' (first | ((with_reducible refine go ?_); (first | ((k_dflt (apply comp_end_ack; k_asm; k_asm; (with_reducible assumption); (with_reducible assumption); (with_reducible assumption); (with_reducible assumption); exact rfl; (focus k_mem); (focus k_mem); (focus lcg_src)))) | ((k_here; (with_reducible show wpAny _ _ (subscriptTail _ _ (Value.ref _) (Value.int _ _)) _ _ _); k_dflt (refine' sub_tup ?NQ20 ?hpQ20 ?h0Q20 ?h1Q20 ?hjQ20 ?hxQ20 ?_ ?hsQ20; (case NQ20 => k_asm); (case hpQ20 => k_mem); (case h0Q20 => decide); (case h1Q20 => decide); (case hjQ20 => rfl); (case hxQ20 => rfl); (case hsQ20 => with_unfolding_all rfl); k_whole))) | ((k_here; (with_reducible show wpAny _ _ (subscriptTail _ _ (Value.ref _) (Value.int _ _)) _ _ _); k_dflt (refine' sub_lst ?NQ19 ?hpQ19 ?h0Q19 ?h1Q19 ?hxQ19 ?_ ?hsQ19; (case NQ19 => k_asm); (case hpQ19 => k_mem); (case h0Q19 => decide); (case h1Q19 => decide); (case hxQ19 => rfl); (case hsQ19 => with_unfolding_all rfl); k_whole))) | ((k_here; k_dflt (refine' sub_str ?NQ18 ?hpQ18 ?hdQ18 ?hlQ18 ?_ ?hsQ18 ?hgQ18; (case NQ18 => k_asm); (case hpQ18 => k_mem); (case hdQ18 => k_asm); (case hlQ18 => walk_at "my at"); (case hsQ18 => with_unfolding_all rfl); (case hgQ18 => (intro _; with_unfolding_all rfl))))) | ((k_here; (with_reducible show wpAny _ _ (newList []) _ _ _); k_dflt (apply told_start; k_asm; k_asm; exact rfl; exact rfl; (with_reducible assumption); (focus k_mem); (focus k_mem); (with_reducible assumption); (with_reducible assumption); (focus k_mem); k_asm; k_asm; (focus walk_at "my at"); (focus walk_at "my at"); (focus k_mem); (focus k_mem); (with_reducible assumption); (with_reducible assumption); (with_reducible assumption); (with_reducible assumption); (focus k_mem); k_asm; (focus walk_at "my at"); (focus walk_at "my at"); (focus k_mem); (focus k_mem); (focus k_mem); (focus k_mem); (focus k_mem); (focus k_mem); (with_reducible assumption); (with_reducible assumption); (with_reducible assumption); (with_reducible assumption); (focus k_mem); (focus k_mem); (focus walk_at "my allne")); (repeat (rename AllNe _ _ => zz; clear zz)); (repeat (rename Dif _ _ => zz; clear zz)); (repeat (rename Kept _ _ _ => zz; clear zz)); (repeat (rename News _ _ _ _ => zz; clear zz)); (repeat (rename Fr _ _ _ _ => zz; clear zz)); (repeat (rename Born _ _ _ => zz; clear zz)); (repeat (rename IntsAre _ _ => zz; clear zz)); (repeat (rename PyProof.V.FlatPairs _ => zz; clear zz)); (repeat (rename PySem.Obj.IsDictOf _ _ _ => zz; clear zz)); (repeat (rename CvIs _ _ _ _ => zz; clear zz)); (repeat (rename LE.le _ _ => zz; clear zz)); (repeat (rename LT.lt _ _ => zz; clear zz)); intro l' h' F' N' l1 hr9 hc29 hc39 hos9 lo9 hv19 hv29 hI19 hI29 hn19 hn29 hst9 hs19 hs29 hm19 hm29 hcv19 hcv29 d39)) | ((k_here; (with_reducible show wpAny _ _ (compareOp CmpOp.Eq (Value.ref _) (Value.ref _)) _ _ _); k_dflt (apply told_none2; k_asm; (focus k_mem); (focus k_mem); (with_reducible assumption); (with_reducible assumption); (focus first | units_room | exact Nat.le_of_ble_eq_true rfl | decide)); (try dsimp only))) | ((k_here; (with_reducible show wpAny _ _ (compareOp CmpOp.Eq (Value.ref _) (Value.ref _)) _ _ _); k_dflt (apply told_some2; k_asm; (focus k_mem); (focus k_mem); (focus k_mem); (focus k_mem); (focus k_mem); (focus k_mem); (focus k_mem); (focus k_mem); (with_reducible assumption); omega; (with_reducible assumption); (focus first | units_room | exact Nat.le_of_ble_eq_true rfl | decide)); (try dsimp only))) | ((k_here; (with_reducible show wpAny _ _ (call (Value.ref 115) [Value.ref _]) _ _ _); k_dflt (apply all_spec (u := ⟨_, _, _, _, _, _, _, _⟩); walk_at "my six"; (focus k_mem); (focus k_mem); (focus k_mem); k_asm; k_asm; walk_at "my le"; (focus walk_at "my cntAt"); (focus walk_at "my cntAt"); (focus ktr_room)); intro R9 p19 p29 v9 a19 a29 a39 a49 a59 a69 h9 tk9 a9 F9 N9; clear a9; (try dsimp only))) | ((k_here; (with_reducible show wpAny _ _ (eval (Expr.ListComp _ [⟨Expr.Name _ _, Expr.Name _ _, _, _⟩] _ _) _) _ _ _); k_dflt (refine' ListComp_tup ?hhQ13 ?FQ13 ?NQ13 ?hmQ13 ?hclosQ13 ?hcellQ13 ?hkindQ13 ?hnamesQ13 ?hxQ13 ?hszQ13 ?hordQ13 ?hQ13 ?_; (case hhQ13 => rfl); (case FQ13 => k_asm); (case NQ13 => k_asm); (case hordQ13 => exact rfl); (case hQ13 => (k_steps; (all_goals (first | exact rfl | exact ⟨_, rfl⟩ | exact ⟨rfl, _, rfl⟩)))); (case hmQ13 => k_mem); (case hclosQ13 => with_unfolding_all rfl); (case hcellQ13 => decide); (case hkindQ13 => rfl); (case hnamesQ13 => decide); (case hxQ13 => rfl); (case hszQ13 => exact Nat.le_of_ble_eq_true rfl)); intro g9 tk9; k_dflt lcg_lit)) | ((k_dflt (refine LCg.CompRest.succ ?_); intro v' I' oI' C' oC' D' m' h' tk' E' hv' hC' hx' F' N' off' ne'; lcg_open hv'; (replace off' := off3_dif off'); (replace ne' := dif3 ne'); (have hof1 := And.left off'); (have hof2 := And.left (And.right off')); (have hof3 := And.right (And.right off')); clear off'; (have hne1 := And.left ne'); (have hne2 := And.left (And.right ne')); (have hne3 := And.right (And.right ne')); clear ne')) | ((k_here; (with_reducible show wpAny _ _ (call (Value.ref 108) [Value.ref _, Value.int _ _]) _ _ _); k_dflt (apply beg_specT; walk_at "my six"; (focus k_mem); k_asm; k_asm; (focus walk_at "my at"); (focus walk_at "my at"); (focus k_mem); (focus k_mem); (focus l_ints); (focus l_ints); (with_reducible assumption); (with_reducible assumption); (focus ktr_room); walk_at "my le"); intro x9 dx9 ds9 dc9 ta9 tb9 oS9 oC9 kvS9 v29 v39 a19 a29 a39 a49 u9 h9 tk9 p19 p29 p39 p49 f19 f29 f39 f49 f59 f69 ap9 lo9 lo29 hS9 hva9 hvb9 hca9 hcb9 hC9 F9 N9; (simp only [Apart, NeAll, and_true, and_assoc] at ap9); (repeat (have hdf := And.left ap9; replace ap9 := And.right ap9)); (try dsimp only))) | ((k_here; (with_reducible show wpAny _ _ (call (Value.ref 82) [Value.ref _, Value.str _ _, _, Value.ref _, Value.bool true]) _ _ _); k_dflt (apply ack_any (u := ⟨_, _, _, _, _, _, _, _⟩); walk_at "my six"; (with_reducible assumption); (focus k_mem); (focus k_mem); (focus k_updF); (focus intro _; k_updF); (focus k_mem); k_asm; k_asm; k_asm; k_asm; (focus walk_at "my at"); (focus k_mem); (focus walk_at "my cnt"); (focus k_mem); (focus k_mem); walk_at "my le"; (focus l_ints); (focus walk_at "my dif"); (focus walk_at "my dif"); (focus walk_at "my dif"); (focus ktr_room); walk_at "my le"; walk_at "my le"; walk_at "my le"); intro st9 oC9 ob9 ck9 kb9 z9 o9 c9 r9 v9 tr9 h9 tk9 hA9 e19 e29 e39 e49 e59 e69 er9 ei9 hC9 hq9 hl9 hd9 hw9 F9 N9; clear hw9; (have hok9 := strOk_acked hA9 (by first | with_reducible assumption | exact strOk_stOf)); subst er9; (try dsimp only at N9); (try dsimp only at hl9); (try simp only [List.length_nil, Nat.zero_add] at hl9); (try walk_at "my chain"); (try dsimp only))) | ((k_here; (with_reducible show wpAny _ _ (call (Value.ref 120) [Value.ref _, Value.int _ _, Value.str _ _, Value.ref _]) _ _ _); k_dflt (refine' right_any ?BQ9 ?FQ9 ?XQ9 ?NQ9 ?TQ9 ?hkQ9 ?msdQ9 ?ml1Q9 ?ml2Q9 ?mslQ9 ?ms1Q9 ?ms2Q9 ?mlm1Q9 ?mlm2Q9 ?hcv1Q9 ?hcv2Q9 ?mkc1Q9 ?mkc2Q9 ?hosQ9 ?loQ9 ?hv1Q9 ?hv2Q9 ?hI1Q9 ?hI2Q9 ?hJ1Q9 ?hJ2Q9 ?hn1Q9 ?hn2Q9 ?hm1Q9 ?hm2Q9 ?hspQ9 ?hdpQ9 ?hunQ9 ?ht0Q9 ?_; (case BQ9 => k_asm); (case FQ9 => k_asm); (case XQ9 => k_asm); (case NQ9 => k_asm); (case TQ9 => k_asm); (case hkQ9 => first | exact rfl | assumption); (case msdQ9 => k_mem); (case hosQ9 => k_asm); (case loQ9 => k_asm); (case hv1Q9 => walk_at "my at"); (case hv2Q9 => walk_at "my at"); (case ml1Q9 => k_mem); (case ml2Q9 => k_mem); (case mslQ9 => k_mem); (case ms1Q9 => k_mem); (case ms2Q9 => k_mem); (case mlm1Q9 => k_mem); (case mlm2Q9 => k_mem); (case hcv1Q9 => with_reducible assumption); (case hcv2Q9 => with_reducible assumption); (case mkc1Q9 => k_mem); (case mkc2Q9 => k_mem); (case hI1Q9 => l_ints); (case hI2Q9 => l_ints); (case hJ1Q9 => l_ints); (case hJ2Q9 => l_ints); (case hn1Q9 => with_reducible assumption); (case hn2Q9 => with_reducible assumption); (case hm1Q9 => with_reducible assumption); (case hm2Q9 => with_reducible assumption); (case hspQ9 => first | exact Or.inl rfl | exact Or.inr rfl); (case hdpQ9 => ktr_room); (case hunQ9 => first | exact Nat.le_of_ble_eq_true rfl | decide | (have hcL := cLine_is; omega)); (case ht0Q9 => omega)); intro h9 tk9 F9 N9; (try dsimp only))) | ((k_here; (with_reducible show wpAny _ _ (call (Value.ref 101) [Value.ref _, Value.ref _]) _ _ _); k_dflt (apply lstep_any; walk_at "my six"; (focus k_updF); (focus k_mem); (focus k_mem); (focus l_ints); walk_at "my le"; (focus walk_at "my dif"); (focus ktr_room); omega; omega); intro R9 lm9 kc9 oc9 cv9 k9 vs9 ns9 p9 t9 nb9 h9 tk9 hI9 hl9 hp9 hp99 hc9 f19 f29 f39 F9 N9; (try dsimp only at N9); (try dsimp only))) | ((k_here; (with_reducible show wpAny _ _ (compareOp CmpOp.Is _ Value.none) _ _ _); k_dflt (apply is_none; (with_reducible assumption)); (intro e9; (try dsimp only)); rotate_left; (intro e9; (try dsimp only)); rotate_right)) | ((k_here; (with_reducible show wpAny _ _ (eval (Expr.IfExp (Expr.Compare (Expr.Subscript _ _ _) _ _ _) (Expr.Tuple _ _ _) (Expr.Subscript _ _ _) _) _) _ _ _); k_dflt (refine' before_join ?FQ6 ?hcQ6 ?mcQ6 ?NQ6 ?_ ?_; (case FQ6 => k_asm); (case NQ6 => k_asm); (case hcQ6 => with_reducible assumption); (case mcQ6 => k_mem)); (k_dflt focus ((with_reducible refine IfExp_ ?_); k_steps; (all_goals (first | exact Or.inl ⟨⟨_, by assumption⟩, rfl, _, rfl⟩ | exact Or.inr ⟨_, _, _, _, _, _, _, _, _, rfl, rfl, by walk_at "my allne", by assumption, by assumption⟩)))); intro q9 z19 z29 z39 a19 a29 a39 h9 tk9 hb9 F9 N9; (try dsimp only))) | ((k_here; k_dflt (apply comp_sent; rfl; k_asm; k_asm; assumption; omega; omega; rfl; (focus k_mem); assumption; (focus k_updF); (focus k_mem); (focus walk_at "my dif"); (focus walk_at "my dif")); (k_dflt focus (intro p9 tp9 nb9 C9 oC9 m9 h9 tk9 E9 Qy9 hp9 hp99 hC9 F9 N9 dd1 dd2 dd3 hq9; (try dsimp only); k_steps; (all_goals exact hq9 _ _ _ _ _ _ (menu_at _).1 (menu_at _).2 (by assumption) (news_sub (by assumption) (by lcg_sub)) (Kept.comp (by assumption) (by assumption))))); intro g9 ys9 ns9 p9 tp9 nb9 hI9 hn9 hl9 hv9 hp9 hp99; clear hv9; (try dsimp only))) | ((k_here; k_dflt (apply newList_KK; k_asm; k_asm; k_whole); intro l' h' K' F' N' l1; (replace l1 := allNe_lt l1); (try k_sweep))) | (((unfold LCg.FinE); intro D' h' tk' F' N' o1'; (replace o1' := off1_dif o1'); (try simp only [List.nil_append, List.cons_append] at N'); (try dsimp only))) | ((k_here; k_dflt (apply newList_K; k_asm; k_asm; k_whole); intro l' h' F' N' l1; (replace l1 := allNe_lt l1); (try k_sweep))) | ((k_here; k_dflt (refine' kup_newTuple ?FQ1 ?NQ1 ?_ ?zQ1; (case FQ1 => k_asm); (case NQ1 => k_asm); (case zQ1 => kmk_size)); intro D' h' F' N' l1; (replace l1 := allNe_lt l1); (try k_sweep))) | ((k_here; (with_reducible show wpAny _ _ (call (Value.ref 96) [Value.ref _, Value.int _ _]) _ _ _); k_dflt (apply take_spec; walk_at "my six"; (focus k_updF); (focus k_mem); (focus l_ints); walk_at "my le"; (focus k_ne); (focus ktr_room); omega; omega; omega; omega); intro r9 t9 u9 h9 tk9 nb9 r0 r1 F9 N9 K9; (try dsimp only at N9); (try dsimp only); (try k_sweep); (try k_fold))))) | (k_unfold; (try dsimp only)) | (k_end; kc_close) | walk1 | (dsimp only; walk1) | (leave1; (try dsimp only)) | fail "no step")); (all_goals (first | exact Or.inl ⟨⟨_, by assumption⟩, rfl, _, rfl⟩ | exact Or.inr ⟨_, _, _, _, _, _, _, _, _, rfl, rfl, by walk_at "my allne", by assumption, by assumption⟩)))); intro q9 z19 z29 z39 a19 a29 a39 h9 tk9 hb9 F9 N9; (try dsimp only))) | ((k_here; k_dflt (apply comp_sent; rfl; k_asm; k_asm; assumption; omega; omega; rfl; (focus k_mem); assumption; (focus k_updF); (focus k_mem); (focus walk_at "my dif"); (focus walk_at "my dif")); (k_dflt focus (intro p9 tp9 nb9 C9 oC9 m9 h9 tk9 E9 Qy9 hp9 hp99 hC9 F9 N9 dd1 dd2 dd3 hq9; (try dsimp only); (repeat' (first | ((with_reducible refine go ?_); (first | ((k_dflt (apply comp_end_ack; k_asm; k_asm; (with_reducible assumption); (with_reducible assumption); (with_reducible assumption); (with_reducible assumption); exact rfl; (focus k_mem); (focus k_mem); (focus lcg_src)))) | ((k_here; (with_reducible show wpAny _ _ (subscriptTail _ _ (Value.ref _) (Value.int _ _)) _ _ _); k_dflt (refine' sub_tup ?NQ20 ?hpQ20 ?h0Q20 ?h1Q20 ?hjQ20 ?hxQ20 ?_ ?hsQ20; (case NQ20 => k_asm); (case hpQ20 => k_mem); (case h0Q20 => decide); (case h1Q20 => decide); (case hjQ20 => rfl); (case hxQ20 => rfl); (case hsQ20 => with_unfolding_all rfl); k_whole))) | ((k_here; (with_reducible show wpAny _ _ (subscriptTail _ _ (Value.ref _) (Value.int _ _)) _ _ _); k_dflt (refine' sub_lst ?NQ19 ?hpQ19 ?h0Q19 ?h1Q19 ?hxQ19 ?_ ?hsQ19; (case NQ19 => k_asm); (case hpQ19 => k_mem); (case h0Q19 => decide); (case h1Q19 => decide); (case hxQ19 => rfl); (case hsQ19 => with_unfolding_all rfl); k_whole))) | ((k_here; k_dflt (refine' sub_str ?NQ18 ?hpQ18 ?hdQ18 ?hlQ18 ?_ ?hsQ18 ?hgQ18; (case NQ18 => k_asm); (case hpQ18 => k_mem); (case hdQ18 => k_asm); (case hlQ18 => walk_at "my at"); (case hsQ18 => with_unfolding_all rfl); (case hgQ18 => (intro _; with_unfolding_all rfl))))) | ((k_here; (with_reducible show wpAny _ _ (newList []) _ _ _); k_dflt (apply told_start; k_asm; k_asm; exact rfl; exact rfl; (with_reducible assumption); (focus k_mem); (focus k_mem); (with_reducible assumption); (with_reducible assumption); (focus k_mem); k_asm; k_asm; (focus walk_at "my at"); (focus walk_at "my at"); (focus k_mem); (focus k_mem); (with_reducible assumption); (with_reducible assumption); (with_reducible assumption); (with_reducible assumption); (focus k_mem); k_asm; (focus walk_at "my at"); (focus walk_at "my at"); (focus k_mem); (focus k_mem); (focus k_mem); (focus k_mem); (focus k_mem); (focus k_mem); (with_reducible assumption); (with_reducible assumption); (with_reducible assumption); (with_reducible assumption); (focus k_mem); (focus k_mem); (focus walk_at "my allne")); (repeat (rename AllNe _ _ => zz; clear zz)); (repeat (rename Dif _ _ => zz; clear zz)); (repeat (rename Kept _ _ _ => zz; clear zz)); (repeat (rename News _ _ _ _ => zz; clear zz)); (repeat (rename Fr _ _ _ _ => zz; clear zz)); (repeat (rename Born _ _ _ => zz; clear zz)); (repeat (rename IntsAre _ _ => zz; clear zz)); (repeat (rename PyProof.V.FlatPairs _ => zz; clear zz)); (repeat (rename PySem.Obj.IsDictOf _ _ _ => zz; clear zz)); (repeat (rename CvIs _ _ _ _ => zz; clear zz)); (repeat (rename LE.le _ _ => zz; clear zz)); (repeat (rename LT.lt _ _ => zz; clear zz)); intro l' h' F' N' l1 hr9 hc29 hc39 hos9 lo9 hv19 hv29 hI19 hI29 hn19 hn29 hst9 hs19 hs29 hm19 hm29 hcv19 hcv29 d39)) | ((k_here; (with_reducible show wpAny _ _ (compareOp CmpOp.Eq (Value.ref _) (Value.ref _)) _ _ _); k_dflt (apply told_none2; k_asm; (focus k_mem); (focus k_mem); (with_reducible assumption); (with_reducible assumption); (focus first | units_room | exact Nat.le_of_ble_eq_true rfl | decide)); (try dsimp only))) | ((k_here; (with_reducible show wpAny _ _ (compareOp CmpOp.Eq (Value.ref _) (Value.ref _)) _ _ _); k_dflt (apply told_some2; k_asm; (focus k_mem); (focus k_mem); (focus k_mem); (focus k_mem); (focus k_mem); (focus k_mem); (focus k_mem); (focus k_mem); (with_reducible assumption); omega; (with_reducible assumption); (focus first | units_room | exact Nat.le_of_ble_eq_true rfl | decide)); (try dsimp only))) | ((k_here; (with_reducible show wpAny _ _ (call (Value.ref 115) [Value.ref _]) _ _ _); k_dflt (apply all_spec (u := ⟨_, _, _, _, _, _, _, _⟩); walk_at "my six"; (focus k_mem); (focus k_mem); (focus k_mem); k_asm; k_asm; walk_at "my le"; (focus walk_at "my cntAt"); (focus walk_at "my cntAt"); (focus ktr_room)); intro R9 p19 p29 v9 a19 a29 a39 a49 a59 a69 h9 tk9 a9 F9 N9; clear a9; (try dsimp only))) | ((k_here; (with_reducible show wpAny _ _ (eval (Expr.ListComp _ [⟨Expr.Name _ _, Expr.Name _ _, _, _⟩] _ _) _) _ _ _); k_dflt (refine' ListComp_tup ?hhQ13 ?FQ13 ?NQ13 ?hmQ13 ?hclosQ13 ?hcellQ13 ?hkindQ13 ?hnamesQ13 ?hxQ13 ?hszQ13 ?hordQ13 ?hQ13 ?_; (case hhQ13 => rfl); (case FQ13 => k_asm); (case NQ13 => k_asm); (case hordQ13 => exact rfl); (case hQ13 => (k_steps; (all_goals (first | exact rfl | exact ⟨_, rfl⟩ | exact ⟨rfl, _, rfl⟩)))); (case hmQ13 => k_mem); (case hclosQ13 => with_unfolding_all rfl); (case hcellQ13 => decide); (case hkindQ13 => rfl); (case hnamesQ13 => decide); (case hxQ13 => rfl); (case hszQ13 => exact Nat.le_of_ble_eq_true rfl)); intro g9 tk9; k_dflt lcg_lit)) | ((k_dflt (refine LCg.CompRest.succ ?_); intro v' I' oI' C' oC' D' m' h' tk' E' hv' hC' hx' F' N' off' ne'; lcg_open hv'; (replace off' := off3_dif off'); (replace ne' := dif3 ne'); (have hof1 := And.left off'); (have hof2 := And.left (And.right off')); (have hof3 := And.right (And.right off')); clear off'; (have hne1 := And.left ne'); (have hne2 := And.left (And.right ne')); (have hne3 := And.right (And.right ne')); clear ne')) | ((k_here; (with_reducible show wpAny _ _ (call (Value.ref 108) [Value.ref _, Value.int _ _]) _ _ _); k_dflt (apply beg_specT; walk_at "my six"; (focus k_mem); k_asm; k_asm; (focus walk_at "my at"); (focus walk_at "my at"); (focus k_mem); (focus k_mem); (focus l_ints); (focus l_ints); (with_reducible assumption); (with_reducible assumption); (focus ktr_room); walk_at "my le"); intro x9 dx9 ds9 dc9 ta9 tb9 oS9 oC9 kvS9 v29 v39 a19 a29 a39 a49 u9 h9 tk9 p19 p29 p39 p49 f19 f29 f39 f49 f59 f69 ap9 lo9 lo29 hS9 hva9 hvb9 hca9 hcb9 hC9 F9 N9; (simp only [Apart, NeAll, and_true, and_assoc] at ap9); (repeat (have hdf := And.left ap9; replace ap9 := And.right ap9)); (try dsimp only))) | ((k_here; (with_reducible show wpAny _ _ (call (Value.ref 82) [Value.ref _, Value.str _ _, _, Value.ref _, Value.bool true]) _ _ _); k_dflt (apply ack_any (u := ⟨_, _, _, _, _, _, _, _⟩); walk_at "my six"; (with_reducible assumption); (focus k_mem); (focus k_mem); (focus k_updF); (focus intro _; k_updF); (focus k_mem); k_asm; k_asm; k_asm; k_asm; (focus walk_at "my at"); (focus k_mem); (focus walk_at "my cnt"); (focus k_mem); (focus k_mem); walk_at "my le"; (focus l_ints); (focus walk_at "my dif"); (focus walk_at "my dif"); (focus walk_at "my dif"); (focus ktr_room); walk_at "my le"; walk_at "my le"; walk_at "my le"); intro st9 oC9 ob9 ck9 kb9 z9 o9 c9 r9 v9 tr9 h9 tk9 hA9 e19 e29 e39 e49 e59 e69 er9 ei9 hC9 hq9 hl9 hd9 hw9 F9 N9; clear hw9; (have hok9 := strOk_acked hA9 (by first | with_reducible assumption | exact strOk_stOf)); subst er9; (try dsimp only at N9); (try dsimp only at hl9); (try simp only [List.length_nil, Nat.zero_add] at hl9); (try walk_at "my chain"); (try dsimp only))) | ((k_here; (with_reducible show wpAny _ _ (call (Value.ref 120) [Value.ref _, Value.int _ _, Value.str _ _, Value.ref _]) _ _ _); k_dflt (refine' right_any ?BQ9 ?FQ9 ?XQ9 ?NQ9 ?TQ9 ?hkQ9 ?msdQ9 ?ml1Q9 ?ml2Q9 ?mslQ9 ?ms1Q9 ?ms2Q9 ?mlm1Q9 ?mlm2Q9 ?hcv1Q9 ?hcv2Q9 ?mkc1Q9 ?mkc2Q9 ?hosQ9 ?loQ9 ?hv1Q9 ?hv2Q9 ?hI1Q9 ?hI2Q9 ?hJ1Q9 ?hJ2Q9 ?hn1Q9 ?hn2Q9 ?hm1Q9 ?hm2Q9 ?hspQ9 ?hdpQ9 ?hunQ9 ?ht0Q9 ?_; (case BQ9 => k_asm); (case FQ9 => k_asm); (case XQ9 => k_asm); (case NQ9 => k_asm); (case TQ9 => k_asm); (case hkQ9 => first | exact rfl | assumption); (case msdQ9 => k_mem); (case hosQ9 => k_asm); (case loQ9 => k_asm); (case hv1Q9 => walk_at "my at"); (case hv2Q9 => walk_at "my at"); (case ml1Q9 => k_mem); (case ml2Q9 => k_mem); (case mslQ9 => k_mem); (case ms1Q9 => k_mem); (case ms2Q9 => k_mem); (case mlm1Q9 => k_mem); (case mlm2Q9 => k_mem); (case hcv1Q9 => with_reducible assumption); (case hcv2Q9 => with_reducible assumption); (case mkc1Q9 => k_mem); (case mkc2Q9 => k_mem); (case hI1Q9 => l_ints); (case hI2Q9 => l_ints); (case hJ1Q9 => l_ints); (case hJ2Q9 => l_ints); (case hn1Q9 => with_reducible assumption); (case hn2Q9 => with_reducible assumption); (case hm1Q9 => with_reducible assumption); (case hm2Q9 => with_reducible assumption); (case hspQ9 => first | exact Or.inl rfl | exact Or.inr rfl); (case hdpQ9 => ktr_room); (case hunQ9 => first | exact Nat.le_of_ble_eq_true rfl | decide | (have hcL := cLine_is; omega)); (case ht0Q9 => omega)); intro h9 tk9 F9 N9; (try dsimp only))) | ((k_here; (with_reducible show wpAny _ _ (call (Value.ref 101) [Value.ref _, Value.ref _]) _ _ _); k_dflt (apply lstep_any; walk_at "my six"; (focus k_updF); (focus k_mem); (focus k_mem); (focus l_ints); walk_at "my le"; (focus walk_at "my dif"); (focus ktr_room); omega; omega); intro R9 lm9 kc9 oc9 cv9 k9 vs9 ns9 p9 t9 nb9 h9 tk9 hI9 hl9 hp9 hp99 hc9 f19 f29 f39 F9 N9; (try dsimp only at N9); (try dsimp only))) | ((k_here; (with_reducible show wpAny _ _ (compareOp CmpOp.Is _ Value.none) _ _ _); k_dflt (apply is_none; (with_reducible assumption)); (intro e9; (try dsimp only)); rotate_left; (intro e9; (try dsimp only)); rotate_right)) | ((k_here; (with_reducible show wpAny _ _ (eval (Expr.IfExp (Expr.Compare (Expr.Subscript _ _ _) _ _ _) (Expr.Tuple _ _ _) (Expr.Subscript _ _ _) _) _) _ _ _); k_dflt (refine' before_join ?FQ6 ?hcQ6 ?mcQ6 ?NQ6 ?_ ?_; (case FQ6 => k_asm); (case NQ6 => k_asm); (case hcQ6 => with_reducible assumption); (case mcQ6 => k_mem)); (k_dflt focus ((with_reducible refine IfExp_ ?_); k_steps; (all_goals (first | exact Or.inl ⟨⟨_, by assumption⟩, rfl, _, rfl⟩ | exact Or.inr ⟨_, _, _, _, _, _, _, _, _, rfl, rfl, by walk_at "my allne", by assumption, by assumption⟩)))); intro q9 z19 z29 z39 a19 a29 a39 h9 tk9 hb9 F9 N9; (try dsimp only))) | ((k_here; k_dflt (apply comp_sent; rfl; k_asm; k_asm; assumption; omega; omega; rfl; (focus k_mem); assumption; (focus k_updF); (focus k_mem); (focus walk_at "my dif"); (focus walk_at "my dif")); (k_dflt focus (intro p9 tp9 nb9 C9 oC9 m9 h9 tk9 E9 Qy9 hp9 hp99 hC9 F9 N9 dd1 dd2 dd3 hq9; (try dsimp only); k_steps; (all_goals exact hq9 _ _ _ _ _ _ (menu_at _).1 (menu_at _).2 (by assumption) (news_sub (by assumption) (by lcg_sub)) (Kept.comp (by assumption) (by assumption))))); intro g9 ys9 ns9 p9 tp9 nb9 hI9 hn9 hl9 hv9 hp9 hp99; clear hv9; (try dsimp only))) | ((k_here; k_dflt (apply newList_KK; k_asm; k_asm; k_whole); intro l' h' K' F' N' l1; (replace l1 := allNe_lt l1); (try k_sweep))) | (((unfold LCg.FinE); intro D' h' tk' F' N' o1'; (replace o1' := off1_dif o1'); (try simp only [List.nil_append, List.cons_append] at N'); (try dsimp only))) | ((k_here; k_dflt (apply newList_K; k_asm; k_asm; k_whole); intro l' h' F' N' l1; (replace l1 := allNe_lt l1); (try k_sweep))) | ((k_here; k_dflt (refine' kup_newTuple ?FQ1 ?NQ1 ?_ ?zQ1; (case FQ1 => k_asm); (case NQ1 => k_asm); (case zQ1 => kmk_size)); intro D' h' F' N' l1; (replace l1 := allNe_lt l1); (try k_sweep))) | ((k_here; (with_reducible show wpAny _ _ (call (Value.ref 96) [Value.ref _, Value.int _ _]) _ _ _); k_dflt (apply take_spec; walk_at "my six"; (focus k_updF); (focus k_mem); (focus l_ints); walk_at "my le"; (focus k_ne); (focus ktr_room); omega; omega; omega; omega); intro r9 t9 u9 h9 tk9 nb9 r0 r1 F9 N9 K9; (try dsimp only at N9); (try dsimp only); (try k_sweep); (try k_fold))))) | (k_unfold; (try dsimp only)) | (k_end; kc_close) | walk1 | (dsimp only; walk1) | (leave1; (try dsimp only)) | fail "no step")); (all_goals exact hq9 _ _ _ _ _ _ (menu_at _).1 (menu_at _).2 (by assumption) (news_sub (by assumption) (by lcg_sub)) (Kept.comp (by assumption) (by assumption))))); intro g9 ys9 ns9 p9 tp9 nb9 hI9 hn9 hl9 hv9 hp9 hp99; clear hv9; (try dsimp only))) | ((k_here; k_dflt (apply newList_KK; k_asm; k_asm; k_whole); intro l' h' K' F' N' l1; (replace l1 := allNe_lt l1); (try k_sweep))) | (((unfold LCg.FinE); intro D' h' tk' F' N' o1'; (replace o1' := off1_dif o1'); (try simp only [List.nil_append, List.cons_append] at N'); (try dsimp only))) | ((k_here; k_dflt (apply newList_K; k_asm; k_asm; k_whole); intro l' h' F' N' l1; (replace l1 := allNe_lt l1); (try k_sweep))) | ((k_here; k_dflt (refine' kup_newTuple ?FQ1 ?NQ1 ?_ ?zQ1; (case FQ1 => k_asm); (case NQ1 => k_asm); (case zQ1 => kmk_size)); intro D' h' F' N' l1; (replace l1 := allNe_lt l1); (try k_sweep))) | ((k_here; (with_reducible show wpAny _ _ (call (Value.ref 96) [Value.ref _, Value.int _ _]) _ _ _); k_dflt (apply take_spec; walk_at "my six"; (focus k_updF); (focus k_mem); (focus l_ints); walk_at "my le"; (focus k_ne); (focus ktr_room); omega; omega; omega; omega); intro r9 t9 u9 h9 tk9 nb9 r0 r1 F9 N9 K9; (try dsimp only at N9); (try dsimp only); (try k_sweep); (try k_fold))))) | (k_unfold; (try dsimp only)) | (k_end; kc_close) | walk1 | (dsimp only; walk1) | (leave1; (try dsimp only)) | fail "no step"))

end
end
end Mine
theorem PySem.Challenge.cw_sa0563_01_holds : PySem.Challenge.rw_sa0563_01.Holds :=
  Mine.law_holds

