import PyProof.Rows.All
import Wide.All
import OpenK.AllK
import Wide.FinOn
import PySem.Challenge.RW_pq0225_01
open PySem PySem.W PyProof.Rows
set_option Elab.async false
set_option maxRecDepth 100000
set_option linter.unusedVariables false
set_option linter.unusedSimpArgs false
namespace Mine
set_option maxHeartbeats 8000000
open_top hd for PySem.Challenge.rw_pq0225_01
theorem topOff : True := by
  w_top off
  trivial
end Mine

section A0
open PySem PySem.W PyProof.Rows PySem.Spec PySem.Calls
set_option maxHeartbeats 8000000
namespace Mine

/-- a def is entered from a bare heap: the root heap stays; what is hidden is none of the root's -/
theorem enter {prog : Program} {w : World} {A : Around} {E : Value → Shared → Prop} {s : Shared} {Q : Value → Shared → Prop} {K : Frag} {p : Program} {loose : List Str} {mean : ExcName → Option Value} {mg mb : Str → Option Value} {hR : Heap}
    {name qual : Str} {params : Arguments} {body : List Stmt} {scope : Scope} {dV kV doc pm cdv ct oc : Value} {an od : Option Addr} {osl : Array (Option Value)} {f : Addr} {args : List Value} {binds : List (Str × Value)} (hide : List (Addr × Obj))
    (X : K.In hR) (T : Top p loose mean mg mb hR) (st : hR.StaysIn s.heap) (hh : ∀ q ∈ hide, s.heap.get? q.1 = some q.2 ∧ hR.get? q.1 = none)
    (ho : K.lookup f = some ⟨oc, od, .func (fnOf name qual params body scope dV kV doc pm an cdv ct), osl⟩) (hcd : codeIn K cdv qual = true) (hroom : A.depth < recursionLimit)
    (hbind : BindsTo s (fnOf name qual params body scope dV kV doc pm an cdv ct) ⟨args, []⟩ binds) (hloc : ∀ y ∈ binds, scope.names.lookup y.1 = some .local)
    (h : ∀ g L' h₁, Fr g L' h₁ (fun y => binds.reverse.lookup y) → News g L' h₁ hide → (∀ q ∈ hide, q.1 < L') → K.In g → Top p loose mean mg mb g → hR.StaysIn g → GSub s.heap g (hide.map (·.1)) →
      wpAny (model prog w) (A.deeper (envOf qual scope L' f cdv)) (execs body (envOf qual scope L' f cdv))
        (fun fl s' => Q (match fl with | .ret v => v | _ => .none) s')
        (fun e s' => wpAny (model prog w) (A.deeper (envOf qual scope L' f cdv)) (leaving (envOf qual scope L' f cdv) e) (fun _ s'' => E e s'') (fun e' s'' => E e' s'') s')
        { s with heap := h₁, toks := s.toks + binds.length })
    (hco : scope.isCoroutine = false) (hgen : scope.isGenerator = false) (hk : scope.kind = .function)
    (hcell : ∀ x ∈ scope.names, x.2 ≠ .cell) : wpAny (model prog w) A (call (.ref f) args) Q E s := by
  have XS := X.keeps st
  have stg : hR.StaysIn (hideAll s.heap (hide.map (·.1))) := fun b o e => hideAll_get _ (st b o e) (fun q => by
    obtain ⟨q', hq, rfl⟩ := List.mem_map.mp q
    rw [(hh q' hq).2] at e; cases e)
  refine wpAny_call (codeAny_call_def (fd := fnOf name qual params body scope dV kV doc pm an cdv ct) (body := body) (binds := binds) hroom (XS _ _ ho) rfl (T.nolimit.keeps st) (codeRec_of XS hcd) rfl hbind hcell hloc (fun h₁ hns hk₁ => ?_) hco hgen hk)
  exact h (hideAll s.heap (hide.map (·.1))) s.heap.objs.size h₁ ⟨hns, fun b o e => hk₁ b o (of_hideAll _ e), Nat.le_of_eq (hideAll_size _ _)⟩
    (fun q hq => ⟨hk₁ _ _ (hh q hq).1, Nat.ne_of_lt (Heap.lt_size (hh q hq).1), hideAll_none _ (List.mem_map_of_mem hq)⟩) (fun q hq => Heap.lt_size (hh q hq).1) (X.keeps (fun b o e => stg b o e)) (T.keeps (fun b o e => stg b o e)) stg (fun b o e n => hideAll_get _ e n)

theorem fmod_bounds (z : Int) {k : Int} (hk : 0 < k) : 0 ≤ z.fmod k ∧ z.fmod k < k := by
  rw [Int.fmod_eq_emod_of_nonneg z (Int.le_of_lt hk)]
  exact ⟨Int.emod_nonneg z (Int.ne_of_gt hk), Int.emod_lt_of_pos z hk⟩
theorem mulok_fmod (z b : Int) : IntMulOk (z.fmod 2147483647) b := by
  have h := fmod_bounds z (k := 2147483647) (by decide)
  exact IntMulOk.of_left (PySem.intBits_le_64 (by omega) (by omega))

theorem keep1 {g h hS : Heap} {L l : Addr} {m : Str → Option Value} {x : Obj} (F : Fr g L h m) (G : GSub hS g ([(l, x)].map (·.1))) {b : Addr} {o : Obj} (hb : b ≠ l) (e : hS.get? b = some o) : h.get? b = some o :=
  F.keep b o (G b o e (by simpa using hb))
theorem at1 {g h : Heap} {L l : Addr} {x : Obj} {r : List (Addr × Obj)} (N : News g L h ((l, x) :: r)) : h.get? l = some x := (N _ (List.Mem.head _)).1

abbrev Ar (dp un : Nat) (fr : Option (List Env)) (gd : Option (List Code)) : Around := { handled := none, depth := dp, frames := fr, guards := gd, units := un }
/-- all stays but what stands at l -/
def Keep1 (l : Addr) (h h' : Heap) : Prop := ∀ b o, b ≠ l → h.get? b = some o → h'.get? b = some o
/-- the source of draws: a list of two ints, the second small -/
def src (x y : Int) (tx ty : Tok) (n : Nat) : Obj := listOf #[.int x tx, .int y ty] n
def SrcAt (h : Heap) (l : Addr) : Prop := ∃ x y tx ty n, h.get? l = some (listOf #[.int x tx, .int y ty] n) ∧ 0 ≤ y ∧ y < 2147483647

theorem fr_keep1 {g h h' : Heap} {L l : Addr} {m : Str → Option Value} (F : Fr g L h m) (k : Keep1 l h h') (hl : l ≠ L) (hg : g.get? l = none) : Fr g L h' m := by
  obtain ⟨o, es, ep, ho, r⟩ := F.ns
  refine ⟨⟨o, es, ep, k L o (Ne.symm hl) ho, r⟩, fun b o e => k b o (fun q => by rw [q, hg] at e; cases e) (F.keep b o e), F.above⟩
theorem news_keep1 {g h h' : Heap} {L l : Addr} {o o' : Obj} {news news' : List (Addr × Obj)} (N : News g L h news) (U : Upd l o o' news news') (k : Keep1 l h h') (hl : h'.get? l = some o') : News g L h' news' := by
  obtain ⟨pre, post, rfl, rfl, h1, h2⟩ := U.split
  intro p hp
  rcases List.mem_append.mp hp with hp | hp
  · have z := N p (List.mem_append.mpr (.inl hp))
    exact ⟨k _ _ (h1 p hp) z.1, z.2⟩
  · rcases List.mem_cons.mp hp with rfl | hp
    · exact ⟨hl, (N (l, o) (List.mem_append.mpr (.inr (.head _)))).2⟩
    · have z := N p (List.mem_append.mpr (.inr (.tail _ hp)))
      exact ⟨k _ _ (h2 p hp) z.1, z.2⟩
theorem upd_mem {d : Addr} {o o' : Obj} {l l' : List (Addr × Obj)} (U : Upd d o o' l l') : (d, o) ∈ l := by
  obtain ⟨pre, post, rfl, _⟩ := U.split
  exact List.mem_append.mpr (.inr (.head _))
theorem keep0 {g h hS : Heap} {L : Addr} {m : Str → Option Value} (F : Fr g L h m) (G : GSub hS g (([] : List (Addr × Obj)).map (·.1))) {b : Addr} {o : Obj} (e : hS.get? b = some o) : h.get? b = some o :=
  F.keep b o (G b o e (by simp))
theorem fresh0 {g h hS : Heap} {L l : Addr} {x : Obj} {news : List (Addr × Obj)} (G : GSub hS g (([] : List (Addr × Obj)).map (·.1))) (N : News g L h news) (hm : (l, x) ∈ news) : hS.get? l = none := by
  cases q : hS.get? l with
  | none => rfl
  | some o => have := G l o q (by simp); rw [(N _ hm).2.2] at this; cases this
theorem fresh1 {g h hS : Heap} {L l l₀ : Addr} {x x₀ : Obj} {news : List (Addr × Obj)} (G : GSub hS g ([(l₀, x₀)].map (·.1))) (N : News g L h news) (hm : (l, x) ∈ news) (hn : l ≠ l₀) : hS.get? l = none := by
  cases q : hS.get? l with
  | none => rfl
  | some o => have := G l o q (by simpa using hn); rw [(N _ hm).2.2] at this; cases this
end Mine
end A0

section A1
open PySem PySem.W PyProof.Rows PySem.Spec PySem.Calls
set_option maxHeartbeats 200000
namespace Mine
abbrev tupO (vs : List Value) (n : Nat) : Obj := { cls := .type "tuple", data := .seq vs.toArray n }
/-- how a part of the tree begins -/
inductive Bg where
  | e | lvk (i : Int) | lvn (i : Int) | k1 | n3 | i78 | km
def Bg.vals : Bg → List Value → Prop
  | .e, vs => vs = []
  | .lvk i, vs => ∃ t u, vs = [.str (Str.ofString "k") t, .int i u]
  | .lvn i, vs => ∃ t u, vs = [.str (Str.ofString "n") t, .int i u]
  | .k1, vs => ∃ t, vs = [.str (Str.ofString "k") t]
  | .n3, vs => ∃ u, vs = [.none, .int 3 u]
  | .i78, vs => ∃ t u, vs = [.int 7 t, .int 8 u]
  | .km, vs => ∃ t u, vs = [.str (Str.ofString "k") t, .str (Str.ofString "m") u]
def Bg.lev : Bg → Option Int
  | .lvk i => some i
  | .lvn i => some i
  | _ => none
mutual
inductive T where
  | mk (b : Bg) (ks : Ts) : T
inductive Ts where
  | nil : Ts
  | cons (t : T) (ts : Ts) : Ts
end
mutual
def At (hR h : Heap) : T → Value → Prop
  | .mk b ks, v => ∃ a bv kv n, v = .ref a ∧ h.get? a = some (tupO (bv ++ kv) n) ∧ hR.get? a = none ∧ (bv ++ kv).length ≤ 1000 ∧ b.vals bv ∧ AtL hR h ks kv
def AtL (hR h : Heap) : Ts → List Value → Prop
  | .nil, vs => vs = []
  | .cons t ts, vs => ∃ v r, vs = v :: r ∧ At hR h t v ∧ AtL hR h ts r
end
mutual
def T.size : T → Nat
  | .mk _ ks => 1 + ks.size
def Ts.size : Ts → Nat
  | .nil => 0
  | .cons t ts => t.size + ts.size
end
mutual
def T.depth : T → Nat
  | .mk _ ks => 1 + ks.depth
def Ts.depth : Ts → Nat
  | .nil => 0
  | .cons t ts => max t.depth ts.depth
end
def Ts.snoc : Ts → T → Ts
  | .nil, t => .cons t .nil
  | .cons a r, t => .cons a (r.snoc t)
theorem Ts.size_snoc (t : T) : ∀ ts : Ts, (ts.snoc t).size = ts.size + t.size
  | .nil => by simp [Ts.snoc, Ts.size]
  | .cons a r => by simp only [Ts.snoc, Ts.size, Ts.size_snoc t r]; omega
theorem Ts.depth_snoc (t : T) : ∀ ts : Ts, (ts.snoc t).depth = max ts.depth t.depth
  | .nil => by simp [Ts.snoc, Ts.depth]
  | .cons a r => by simp only [Ts.snoc, Ts.depth, Ts.depth_snoc t r]; omega
theorem AtL.snoc {hR h : Heap} {t : T} {v : Value} (ht : At hR h t v) : ∀ {ts : Ts} {vs : List Value}, AtL hR h ts vs → AtL hR h (ts.snoc t) (vs ++ [v])
  | .nil, _, e => by have e' : _ = [] := e; subst e'; exact ⟨v, [], rfl, ht, rfl⟩
  | .cons _ _, _, ⟨u, r, e, h1, h2⟩ => by subst e; exact ⟨u, r ++ [v], rfl, h1, AtL.snoc ht h2⟩
/-- every tuple stays -/
def KeepT (h h' : Heap) : Prop := ∀ b vs n, h.get? b = some (tupO vs n) → h'.get? b = some (tupO vs n)
mutual
theorem At.mono {hR h h' : Heap} (k : KeepT h h') : ∀ {t : T} {v : Value}, At hR h t v → At hR h' t v
  | .mk b ks, v, ⟨a, bv, kv, n, e, ho, hn, hz, hb, hk⟩ => ⟨a, bv, kv, n, e, k _ _ _ ho, hn, hz, hb, AtL.mono k hk⟩
theorem AtL.mono {hR h h' : Heap} (k : KeepT h h') : ∀ {ts : Ts} {vs : List Value}, AtL hR h ts vs → AtL hR h' ts vs
  | .nil, _, e => e
  | .cons _ _, _, ⟨v, r, e, h1, h2⟩ => ⟨v, r, e, At.mono k h1, AtL.mono k h2⟩
end
theorem KeepT.of_keep {h h' : Heap} (k : ∀ b o, h.get? b = some o → h'.get? b = some o) : KeepT h h' := fun b vs n e => k b _ e
theorem KeepT.of_keep1 {h h' : Heap} {l : Addr} {its : Array Value} {n : Nat} (k : Keep1 l h h') (hl : h.get? l = some (listOf its n)) : KeepT h h' := fun b vs m e => k b _ (fun q => by rw [q, hl] at e; have e' := congrArg Obj.cls (Option.some.inj e); simp at e') e
theorem KeepT.trans {h₁ h₂ h₃ : Heap} (a : KeepT h₁ h₂) (b : KeepT h₂ h₃) : KeepT h₁ h₃ := fun x vs n e => b x vs n (a x vs n e)

/-- the heads of a part's items, by cases -/
inductive Head (hR h : Heap) (b : Bg) (vs : List Value) : Prop where
  | e0 (hb : b.lev = none) (e : vs = [])
  | e1 (hb : b.lev = none) (c : Addr) (cv : List Value) (n : Nat) (hc : h.get? c = some (tupO cv n)) (hc0 : hR.get? c = none) (e : vs = [.ref c])
  | e2 (hb : b.lev = none) (c d : Addr) (cv dv : List Value) (n m : Nat) (hc : h.get? c = some (tupO cv n)) (hc0 : hR.get? c = none) (hd : h.get? d = some (tupO dv m)) (hd0 : hR.get? d = none) (r : List Value) (e : vs = .ref c :: .ref d :: r)
  | lvk (i : Int) (t u : Tok) (hb : b.lev = some i) (r : List Value) (e : vs = .str (Str.ofString "k") t :: .int i u :: r)
  | lvn (i : Int) (t u : Tok) (hb : b.lev = some i) (r : List Value) (e : vs = .str (Str.ofString "n") t :: .int i u :: r)
  | k0 (hb : b.lev = none) (t : Tok) (e : vs = [.str (Str.ofString "k") t])
  | k1 (hb : b.lev = none) (t : Tok) (c : Addr) (cv : List Value) (n : Nat) (hc : h.get? c = some (tupO cv n)) (hc0 : hR.get? c = none) (r : List Value) (e : vs = .str (Str.ofString "k") t :: .ref c :: r)
  | n3 (hb : b.lev = none) (u : Tok) (r : List Value) (e : vs = .none :: .int 3 u :: r)
  | i78 (hb : b.lev = none) (t u : Tok) (r : List Value) (e : vs = .int 7 t :: .int 8 u :: r)
  | km (hb : b.lev = none) (t u : Tok) (r : List Value) (e : vs = .str (Str.ofString "k") t :: .str (Str.ofString "m") u :: r)
theorem head_of {hR h : Heap} {b : Bg} {ks : Ts} {bv kv : List Value} (hb : b.vals bv) (hk : AtL hR h ks kv) : Head hR h b (bv ++ kv) := by
  cases b with
  | e =>
    have hb' : bv = [] := hb
    subst hb'
    cases ks with
    | nil => have hk' : kv = [] := hk; subst hk'; exact .e0 rfl rfl
    | cons t ts =>
      obtain ⟨v, r, rfl, h1, h2⟩ := hk
      cases t with
      | mk b' ks' =>
        obtain ⟨a, bv', kv', n, rfl, ha, ha0, _, _, _⟩ := h1
        cases ts with
        | nil => have hr : r = [] := h2; subst hr; exact .e1 rfl a _ n ha ha0 rfl
        | cons t2 ts2 =>
          obtain ⟨v2, r2, rfl, h3, _⟩ := h2
          cases t2 with
          | mk b2 ks2 =>
            obtain ⟨a2, bv2, kv2, n2, rfl, ha2, ha20, _, _, _⟩ := h3
            exact .e2 rfl a a2 _ _ n n2 ha ha0 ha2 ha20 r2 rfl
  | lvk i => obtain ⟨t, u, rfl⟩ := hb; exact .lvk i t u rfl kv rfl
  | lvn i => obtain ⟨t, u, rfl⟩ := hb; exact .lvn i t u rfl kv rfl
  | k1 =>
    obtain ⟨t, rfl⟩ := hb
    cases ks with
    | nil => have hk' : kv = [] := hk; subst hk'; exact .k0 rfl t rfl
    | cons t1 ts =>
      obtain ⟨v, r, rfl, h1, h2⟩ := hk
      cases t1 with
      | mk b' ks' =>
        obtain ⟨a, bv', kv', n, rfl, ha, ha0, _, _, _⟩ := h1
        exact .k1 rfl t a _ n ha ha0 r rfl
  | n3 => obtain ⟨u, rfl⟩ := hb; exact .n3 rfl u kv rfl
  | i78 => obtain ⟨t, u, rfl⟩ := hb; exact .i78 rfl t u kv rfl
  | km => obtain ⟨t, u, rfl⟩ := hb; exact .km rfl t u kv rfl
end Mine
end A1

section A2
open PySem PySem.W PyProof.Rows PySem.Spec PySem.Calls
set_option maxHeartbeats 200000
namespace Mine
theorem hun1 {dp un : Nat} {fr : Option (List Env)} {gd : Option (List Code)} {env : Env} (h : un + 100 < cLine) : (((Ar dp un fr gd).deeper env).in1).units < cLine := by
  show un + 3 + 1 < cLine
  omega
theorem keepH {g h hS : Heap} {L : Addr} {m : Str → Option Value} {hide news : List (Addr × Obj)} (F : Fr g L h m) (G : GSub hS g (hide.map (·.1))) (N : News g L h news) (hsub : ∀ p ∈ hide, p ∈ news) (hh : ∀ q ∈ hide, hS.get? q.1 = some q.2) (b : Addr) (o : Obj) (e : hS.get? b = some o) : h.get? b = some o := by
  by_cases hb : b ∈ hide.map (·.1)
  · obtain ⟨q, hq, rfl⟩ := List.mem_map.mp hb
    have h1 := hh q hq
    rw [e] at h1
    cases h1
    exact (N q (hsub q hq)).1
  · exact F.keep b o (G b o e hb)
theorem keepH1 {g h hS : Heap} {L l : Addr} {x : Obj} {m : Str → Option Value} {rest news : List (Addr × Obj)} (F : Fr g L h m) (G : GSub hS g (((l, x) :: rest).map (·.1))) (N : News g L h news) (hsub : ∀ p ∈ rest, p ∈ news) (hh : ∀ q ∈ rest, hS.get? q.1 = some q.2) : Keep1 l hS h := by
  intro b o hb e
  by_cases hm : b ∈ rest.map (·.1)
  · obtain ⟨q, hq, rfl⟩ := List.mem_map.mp hm
    have h1 := hh q hq
    rw [e] at h1
    cases h1
    exact (N q (hsub q hq)).1
  · exact F.keep b o (G b o e (by
      intro z
      rcases List.mem_cons.mp z with z | z
      · exact hb z
      · exact hm z))
theorem freshH {g h hS : Heap} {L l : Addr} {x : Obj} {hide news : List (Addr × Obj)} (G : GSub hS g (hide.map (·.1))) (N : News g L h news) (hm : (l, x) ∈ news) (hn : ∀ q ∈ hide, q.1 ≠ l) : hS.get? l = none := by
  cases q : hS.get? l with
  | none => rfl
  | some o =>
    have := G l o q (fun z => by
      obtain ⟨p, hp, e⟩ := List.mem_map.mp z
      exact hn p hp e)
    rw [(N _ hm).2.2] at this; cases this
theorem retB {Q : Value → Shared → Prop} {b c : Bool} {s : Shared} (h : Q (.bool b) s) (e : b = c) : Q (.bool c) s := e ▸ h
theorem hide1 {hS hR : Heap} {a : Addr} {o : Obj} (h : hS.get? a = some o) (h0 : hR.get? a = none) : ∀ q ∈ [(a, o)], hS.get? q.1 = some q.2 ∧ hR.get? q.1 = none := by
  intro q hq; rw [List.mem_singleton.mp hq]; exact ⟨h, h0⟩
theorem hide2 {hS hR : Heap} {a c : Addr} {o oc : Obj} (h : hS.get? a = some o) (h0 : hR.get? a = none) (hc : hS.get? c = some oc) (hc0 : hR.get? c = none) : ∀ q ∈ [(a, o), (c, oc)], hS.get? q.1 = some q.2 ∧ hR.get? q.1 = none := by
  intro q hq
  rcases List.mem_cons.mp hq with rfl | hq
  · exact ⟨h, h0⟩
  · rw [List.mem_singleton.mp hq]; exact ⟨hc, hc0⟩
section
variable {prog : Program} {w : World} {A : Around} {E : Value → Shared → Prop} {s : Shared} {h₀ : Heap} {L a : Addr} {news : List (Addr × Obj)} {x y : Value} {r : List Value} {n : Nat}
theorem len_tup2 {Q : Value → Shared → Prop}
    (N : News h₀ L s.heap news) (hm : (a, tupO (x :: y :: r) n) ∈ news) (hr : r.length ≤ 1000) (h : Q (.int ((r.length : Int) + 2) (s.toks + 1)) { s with toks := s.toks + 1 + 1 }) :
    wpAny (model prog w) A (call (.builtin "len") [.ref a]) Q E s :=
  kun_lenT (items := (x :: y :: r).toArray) (k := (r.length : Int) + 2) (News.isTup N hm) (by simp; omega) (by omega) h
theorem item_tup0 {value slice : Expr} {u : Tok} {Q : Value → Shared → Prop} (N : News h₀ L s.heap news) (hm : (a, tupO (x :: r) n) ∈ news) (h : Q x s)
    (hs : subscripted slice false (.ref a) (.int 0 u) = operate [.ref a, .int 0 u] (getItem (.ref a) (.int 0 u)) := by with_unfolding_all rfl) :
    wpAny (model prog w) A (subscriptTail value slice (.ref a) (.int 0 u)) Q E s :=
  item_tupleT (l := x :: r) (j := 0) (News.isTup N hm) (by decide) (by decide) (by simp [seqIndex?]) rfl h hs
theorem item_tup1 {value slice : Expr} {u : Tok} {Q : Value → Shared → Prop} (N : News h₀ L s.heap news) (hm : (a, tupO (x :: y :: r) n) ∈ news) (h : Q y s)
    (hs : subscripted slice false (.ref a) (.int 1 u) = operate [.ref a, .int 1 u] (getItem (.ref a) (.int 1 u)) := by with_unfolding_all rfl) :
    wpAny (model prog w) A (subscriptTail value slice (.ref a) (.int 1 u)) Q E s :=
  item_tupleT (l := x :: y :: r) (j := 1) (News.isTup N hm) (by decide) (by decide) (by simp [seqIndex?]; omega) rfl h hs
theorem isTuple_news {vs : List Value} (N : News h₀ L s.heap news) (hm : (a, tupO vs n) ∈ news) : s.heap.IsTuple a vs.toArray := ⟨_, (N _ hm).1, rfl, n, rfl⟩
theorem eq_strs {p q : Str} {t u : Tok} {b : Bool} (h : (p.cps.toList == q.cps.toList) = b) : SeqAt.EqAt A s (.str p t) (.str q u) b := by
  subst h; exact (SeqRoads2.EqGives.str p q t u).at A s
theorem eq_str_tup {dp un : Nat} {fr : Option (List Env)} {gd : Option (List Code)} {env : Env} {p : Str} {t : Tok} {vs : List Value} (N : News h₀ L s.heap news) (hm : (a, tupO vs n) ∈ news) (hu : un + 100 < cLine) :
    SeqAt.EqAt (((Ar dp un fr gd).deeper env).in1) s (.str p t) (.ref a) false := SeqAt.EqAt.str_tuple _ _ (isTuple_news N hm) (hun1 hu)
theorem in_two {l : Addr} {p q : Str} {t u : Tok} {b1 b2 : Bool} {Q : Value → Shared → Prop} (N : News h₀ L s.heap news) (hm : (l, tupO [.str p t, .str q u] n) ∈ news) (hpq : q ≠ p)
    (h1 : SeqAt.EqAt A.in1 s (.str p t) x b1) (h2 : SeqAt.EqAt A.in1 s (.str q u) x b2) (h : Q (.bool (b1 || b2)) s) : wpAny (model prog w) A (compareOp .In x (.ref l)) Q E s := by
  refine SeqAt.in_tupleAt (fun | .str z _ => if z = p then b1 else b2 | _ => false) (isTuple_news N hm) ?_ ?_
  · intro y hy
    simp at hy
    rcases hy with rfl | rfl
    · simpa using h1
    · simpa [hpq] using h2
  · simpa [hpq] using h
theorem notIn_two {l : Addr} {p q : Str} {t u : Tok} {b1 b2 : Bool} {Q : Value → Shared → Prop} (N : News h₀ L s.heap news) (hm : (l, tupO [.str p t, .str q u] n) ∈ news) (hpq : q ≠ p)
    (h1 : SeqAt.EqAt A.in1 s (.str p t) x b1) (h2 : SeqAt.EqAt A.in1 s (.str q u) x b2) (h : Q (.bool (!(b1 || b2))) s) : wpAny (model prog w) A (compareOp .NotIn x (.ref l)) Q E s := by
  refine SeqAt.notIn_tupleAt (fun | .str z _ => if z = p then b1 else b2 | _ => false) (isTuple_news N hm) ?_ ?_
  · intro y hy
    simp at hy
    rcases hy with rfl | rfl
    · simpa using h1
    · simpa [hpq] using h2
  · simpa [hpq] using h
end
end Mine
end A2

section A3
open PySem PySem.W PyProof.Rows PySem.Spec PySem.Calls
set_option maxHeartbeats 200000
namespace Mine
/-- a def with cells is entered from a bare heap -/
theorem enterC {prog : Program} {w : World} {A : Around} {E : Value → Shared → Prop} {s : Shared} {Q : Value → Shared → Prop} {K : Frag} {p : Program} {loose : List Str} {mean : ExcName → Option Value} {mg mb : Str → Option Value} {hR : Heap}
    {name qual : Str} {params : Arguments} {body : List Stmt} {scope : Scope} {dV kV doc pm cdv ct oc : Value} {an od : Option Addr} {osl : Array (Option Value)} {f : Addr} {args : List Value} {binds : List (Str × Value)} (hide : List (Addr × Obj))
    (X : K.In hR) (T : Top p loose mean mg mb hR) (st : hR.StaysIn s.heap) (hh : ∀ q ∈ hide, s.heap.get? q.1 = some q.2 ∧ hR.get? q.1 = none)
    (ho : K.lookup f = some ⟨oc, od, .func (fnOf name qual params body scope dV kV doc pm an cdv ct), osl⟩) (hcd : codeIn K cdv qual = true) (hroom : A.depth < recursionLimit)
    (hbind : BindsTo s (fnOf name qual params body scope dV kV doc pm an cdv ct) ⟨args, []⟩ binds)
    (hkind : (binds.all fun y => scope.names.lookup y.1 == some .local || scope.names.lookup y.1 == some .cell) = true)
    (hnd : ((cellsFrom 0 scope.names []).map (·.1)).Nodup)
    (h : ∀ g L' h₁ tk cells, Fr g L' h₁ (bindL (envOfC qual scope L' f cdv).kindOf binds fun _ => none) → News g L' h₁ (cells ++ hide) →
      CellsAre (bindC (envOfC qual scope L' f cdv).kindOf binds fun _ => none) (cellsFrom (L' + 1) scope.names []) cells → (∀ q ∈ hide, q.1 < L') → K.In g → Top p loose mean mg mb g → hR.StaysIn g → GSub s.heap g (hide.map (·.1)) →
      wpAny (model prog w) (A.deeper (envOfC qual scope L' f cdv)) (execs body (envOfC qual scope L' f cdv))
        (fun fl s' => Q (match fl with | .ret v => v | _ => .none) s')
        (fun e s' => wpAny (model prog w) (A.deeper (envOfC qual scope L' f cdv)) (leaving (envOfC qual scope L' f cdv) e) (fun _ s'' => E e s'') (fun e' s'' => E e' s'') s')
        { s with heap := h₁, toks := tk })
    (hco : scope.isCoroutine = false) (hgen : scope.isGenerator = false) (hk : scope.kind = .function) : wpAny (model prog w) A (call (.ref f) args) Q E s := by
  have XS := X.keeps st
  have stg : hR.StaysIn (hideAll s.heap (hide.map (·.1))) := fun b o e => hideAll_get _ (st b o e) (fun q => by
    obtain ⟨q', hq, rfl⟩ := List.mem_map.mp q
    rw [(hh q' hq).2] at e; cases e)
  refine wpAny_call ?_
  refine codeAny_call_function (fd := fnX name qual params body scope [] dV kV doc pm an cdv ct) hroom (XS _ _ ho) rfl hco hgen rfl (codeRec_of XS hcd) (hbind _ _ _ _ ?_)
  refine wpAny_newFunctionEnv_cells hk (kindsX hkind _) fun env' he s' x => ?_
  subst he
  refine ⟨(T.nolimit.keeps st).keeps x.toInCall.keep, codeAny_func ?_⟩
  obtain ⟨h₁, tk, rfl, _⟩ := x.done
  have hk₁ := x.toInCall.keep
  obtain ⟨cells, NC, Y⟩ := Cl.news (h₀ := s.heap) (Nat.le_refl _) fun n c hm => ⟨x.cell n c (lookup_of_mem_nodup (cellsFrom_names scope.names 0 (s.heap.objs.size + 1) [] [] rfl ▸ hnd) hm), x.above n c hm⟩
  refine h (hideAll s.heap (hide.map (·.1))) s.heap.objs.size h₁ tk cells ⟨x.toInCall.ns, fun b o e => hk₁ b o (of_hideAll _ e), Nat.le_of_eq (hideAll_size _ _)⟩ (fun p hp => ?_) Y (fun q hq => Heap.lt_size (hh q hq).1) (X.keeps (fun b o e => stg b o e)) (T.keeps (fun b o e => stg b o e)) stg (fun b o e n => hideAll_get _ e n)
  rcases List.mem_append.mp hp with hp | hp
  · refine ⟨(NC p hp).1, (NC p hp).2.1, ?_⟩
    cases q : (hideAll s.heap (hide.map (·.1))).get? p.1 with
    | none => rfl
    | some o => have := of_hideAll _ q; rw [(NC p hp).2.2] at this; cases this
  · exact ⟨hk₁ _ _ (hh p hp).1, Nat.ne_of_lt (Heap.lt_size (hh p hp).1), hideAll_none _ (List.mem_map_of_mem hp)⟩
end Mine
end A3

section A4
open PySem PySem.W PyProof.Rows PySem.Spec PySem.Calls
set_option maxHeartbeats 200000
namespace Mine
section
variable {prog : Program} {w : World} {A : Around} {R : Result → Shared → Prop} {s : Shared} {E : Value → Shared → Prop} {env : Env}

/-- what a turn of a comprehension may do: it changes no object but those of own, and makes new ones -/
def Ch (own : List Addr) (s s' : Shared) : Prop := ∃ h' tk, s' = { s with heap := h', toks := tk } ∧ ∀ b o, b ∉ own → s.heap.get? b = some o → h'.get? b = some o

theorem keepT_of {h h' : Heap} {C D : Addr} {wr : List Addr} {ys : Array Value} {m' : Str → Option Value} (hw : ∀ b ∈ wr, ∀ vs k, h.get? b ≠ some (tupO vs k)) (pl : h.PlainList D ys) (ns : h.Ns C m')
    (k : ∀ b o, b ≠ C → b ∉ wr → b ≠ D → h.get? b = some o → h'.get? b = some o) : KeepT h h' := by
  intro b vs n e
  refine k b _ (fun q => ?_) (fun q => hw b q vs n e) (fun q => ?_) e
  · obtain ⟨o, es, ep, ho, hd, _⟩ := ns
    rw [q, ho] at e
    have e' := Option.some.inj e
    rw [e'] at hd; cases hd
  · obtain ⟨n', ho⟩ := pl
    rw [q, ho] at e
    have e' := congrArg Obj.cls (Option.some.inj e)
    simp at e'

theorem comp_loop_inv {elt iter : Expr} {x : Str} {px : Pos} {ifs : List Expr} {scope : Scope} {pos : Pos} {I D : Addr} {fp wr own : List Addr} {n : Nat} {P : Nat → Value → Prop} {St : Nat → Heap → Prop}
    {cenv : Env} {m : Str → Option Value} (W : Walks prog w A I fp wr n P St) (J : Nat → List Value → Heap → Prop)
    (hx : cenv.kindOf x = some .local) (hp : (cenv.scope.kind == .class || (cenv.scope.kind == .module && cenv.locals != cenv.globals)) = false)
    (hDC : D ≠ cenv.locals) (hDf : D ∉ fp) (hCf : cenv.locals ∉ fp) (hOf : ∀ b ∈ own, b ∉ fp) (hOD : D ∉ own) (hOC : cenv.locals ∉ own)
    (hst : St 0 s.heap) (hacc : s.heap.PlainList D #[]) (hn : s.heap.Ns cenv.locals m) (hJ0 : J 0 [] s.heap)
    (hw : ∀ i h, St i h → ∀ b ∈ wr, ∀ vs k, h.get? b ≠ some (tupO vs k))
    (hJ : ∀ i ys h h', J i ys h → (∀ b o, b ≠ cenv.locals → b ∉ wr → b ≠ D → h.get? b = some o → h'.get? b = some o) → KeepT h h' → J i ys h')
    (turn : ∀ i v h₂ tk₂ m₂ ys E', i < n → P i v → h₂.Ns cenv.locals m₂ → m₂ x = some v → J i ys h₂ → ys.length ≤ i → (∀ b o, b ≠ cenv.locals → b ∉ wr → b ≠ D → b ∉ own → s.heap.get? b = some o → h₂.get? b = some o) →
      wpAny (model prog w) A (forIn ifs true fun c r => if r = true then do let ok ← isTrue c cenv (eval c cenv); pure (ForInStep.yield ok) else pure (ForInStep.yield r))
        (fun ok s₃ => Ch own { s with heap := h₂, toks := tk₂ } s₃ ∧ if ok = true then wpAny (model prog w) A (eval elt cenv) (fun y s₄ => Ch own s₃ s₄ ∧ J (i + 1) (ys ++ [y]) s₄.heap) E' s₃ else J (i + 1) ys s₃.heap)
        E' { s with heap := h₂, toks := tk₂ })
    (hR : ∀ h' tk m' ys, h'.Ns cenv.locals m' → h'.PlainList D ys → ys.size ≤ n → J n ys.toList h' →
      (∀ b o, b ≠ cenv.locals → b ∉ wr → b ≠ D → b ∉ own → s.heap.get? b = some o → h'.get? b = some o) → R (.ok .next) { s with heap := h', toks := tk })
    (hsz : n ≤ sizeLine) :
    codeAny (model prog w) A (.compLoop (.ListComp elt [⟨.Name x px, iter, ifs, 0⟩] scope pos) 0 (.ref I) (.ref D) cenv) R s := by
  refine codeAny_compLoop_tests
    (fun k s' => ∃ h' tk m' ys i, s' = { s with heap := h', toks := tk } ∧ St i h' ∧ h'.PlainList D ys ∧ h'.Ns cenv.locals m' ∧ J i ys.toList h' ∧ ys.size ≤ i ∧ i ≤ n ∧ k = n + 1 - i ∧
      (∀ b o, b ≠ cenv.locals → b ∉ wr → b ≠ D → b ∉ own → s.heap.get? b = some o → h'.get? b = some o)) ?_ (n + 1)
    ⟨s.heap, s.toks, m, #[], 0, rfl, hst, hacc, hn, hJ0, Nat.le_refl _, Nat.zero_le _, rfl, fun _ _ _ _ _ _ e => e⟩
  rintro k s' ⟨H, tk, m', ys, i, rfl, hst', hacc', hn', hJi, hi0, hi, rfl, hk⟩
  have hCw : cenv.locals ∉ wr := fun h => hCf (W.sub _ h)
  have hDw : D ∉ wr := fun h => hDf (W.sub _ h)
  have kt : ∀ {h h' : Heap} {ys : Array Value} {m' : Str → Option Value} {i : Nat}, St i h → h.PlainList D ys → h.Ns cenv.locals m' → (∀ b o, b ≠ cenv.locals → b ∉ wr → b ≠ D → h.get? b = some o → h'.get? b = some o) → KeepT h h' := fun st pl ns k => keepT_of (hw _ _ st) pl ns k
  by_cases hlt : i < n
  · refine W.item i _ _ _ hlt hst' fun v h₁ tk₁ hPv hst₁ hk₁ => ?_
    refine wpAny_assign_Name (wpAny_storeName_local hx (hn'.at' fun o e => hk₁ _ o hCw e) (fun h₂ hn₂ hs₂ => ?_) hp)
    have up₂ : ∀ b o, b ≠ cenv.locals → b ∉ wr → H.get? b = some o → h₂.get? b = some o := fun b o hbC hbf e => hs₂.extBut b o hbC (hk₁ b o hbf e)
    have hst₂ : St (i + 1) h₂ := W.frame _ _ _ hst₁ fun b hb o e => hs₂.extBut b o (fun h => hCf (h ▸ hb)) e
    have hJ₂ : J i ys.toList h₂ := hJ _ _ _ _ hJi (fun b o hbC hbf _ e => up₂ b o hbC hbf e) (kt hst' hacc' hn' fun b o hbC hbf _ e => up₂ b o hbC hbf e)
    refine wpAny_mono (turn i v h₂ _ _ ys.toList _ hlt hPv hn₂ (by simp) hJ₂ (by simpa using hi0) fun b o hbC hbf hbD hbO e => up₂ b o hbC hbf (hk b o hbC hbf hbD hbO e)) (fun ok s₃ h₃ => ?_) fun _ _ e => e
    obtain ⟨⟨h₃, tk₃, rfl, hk₃⟩, h₃'⟩ := h₃
    have hst₃ : St (i + 1) h₃ := W.frame _ _ _ hst₂ fun b hb o e => hk₃ b o (fun h => hOf b h hb) e
    have hacc₃ : h₃.PlainList D ys := hacc'.at fun o e => hk₃ _ o hOD (up₂ D o hDC hDw e)
    have hn₃ := hn₂.at' fun o e => hk₃ _ o hOC e
    cases ok with
    | false =>
      simp only [Bool.false_eq_true, if_false] at h₃' ⊢
      exact ⟨n + 1 - (i + 1), by omega, h₃, tk₃, _, ys, i + 1, rfl, hst₃, hacc₃, hn₃, h₃', by omega, hlt, rfl, fun b o hbC hbf hbD hbO e => hk₃ b o hbO (up₂ b o hbC hbf (hk b o hbC hbf hbD hbO e))⟩
    | true =>
      simp only [if_true] at h₃' ⊢
      refine wpAny_mono h₃' (fun y s₄ h₄ => ?_) fun _ _ e => e
      obtain ⟨⟨h₄, tk₄, rfl, hk₄⟩, hJ₄⟩ := h₄
      have hys : ys.size ≤ sizeLine := by omega
      refine wpAny_list_append_plain (hsz := hys) (hacc₃.at fun o e => hk₄ _ o hOD e) fun h₅ hl₅ hs₅ => ?_
      refine ⟨n + 1 - (i + 1), by omega, h₅, tk₄, _, ys.push y, i + 1, rfl, ?_, hl₅, (hn₃.at' fun o e => hk₄ _ o hOC e).sameBut hs₅ (Ne.symm hDC), ?_, by rw [Array.size_push]; omega, hlt, rfl,
        fun b o hbC hbf hbD hbO e => hs₅.extBut b o hbD (hk₄ b o hbO (hk₃ b o hbO (up₂ b o hbC hbf (hk b o hbC hbf hbD hbO e))))⟩
      · exact W.frame _ _ h₅ hst₃ fun b hb o e => hs₅.extBut b o (fun h => hDf (h ▸ hb)) (hk₄ b o (fun h => hOf b h hb) e)
      · rw [Array.toList_push]
        exact hJ _ _ _ _ hJ₄ (fun b o _ _ hbD e => hs₅.extBut b o hbD e) (kt (W.frame _ _ _ hst₃ fun b hb o e => hk₄ b o (fun h => hOf b h hb) e) (hacc₃.at fun o e => hk₄ _ o hOD e) (hn₃.at' fun o e => hk₄ _ o hOC e) fun b o _ _ hbD e => hs₅.extBut b o hbD e)
  · have hin : i = n := by omega
    subst hin
    refine W.done _ _ _ hst' fun h₁ tk₁ hk₁ => ?_
    exact hR h₁ tk₁ m' ys (hn'.at' fun o e => hk₁ _ o hCw e) (hacc'.at fun o e => hk₁ _ o hDw e) hi0 (hJ _ _ _ _ hJi (fun b o _ hbf _ e => hk₁ b o hbf e) (kt hst' hacc' hn' fun b o _ hbf _ e => hk₁ b o hbf e)) fun b o hbC hbf hbD hbO e => hk₁ b o hbf (hk b o hbC hbf hbD hbO e)

/-- what a comprehension asks at its iterator -/
def CompPkg (prog : Program) (w : World) (A : Around) (env : Env) (scope : Scope) (cl : List (Str × Addr)) (x : Str) (ifs : List Expr) (elt : Expr) (Q : Value → Shared → Prop) (it : Value) (s₂ : Shared) : Prop :=
  ∃ (I : Addr) (fp wr own : List Addr) (n : Nat) (P : Nat → Value → Prop) (St : Nat → Heap → Prop) (J : Nat → List Value → Heap → Prop), it = .ref I ∧ Walks prog w A I fp wr n P St ∧ n ≤ sizeLine ∧ St 0 s₂.heap ∧ (∀ b ∈ fp, b < s₂.heap.objs.size) ∧
      (∀ b ∈ own, b ∉ fp ∧ b < s₂.heap.objs.size) ∧ J 0 [] s₂.heap ∧
      (∀ i h, St i h → ∀ b ∈ wr, ∀ vs k, h.get? b ≠ some (tupO vs k)) ∧
      (∀ i ys h h', J i ys h → (∀ b o, b < s₂.heap.objs.size → b ∉ wr → h.get? b = some o → h'.get? b = some o) → KeepT h h' → J i ys h') ∧
      (∀ C i v h₃ tk₃ m₃ ys E', s₂.heap.objs.size ≤ C → i < n → P i v → h₃.Ns C m₃ → m₃ x = some v → J i ys h₃ → ys.length ≤ i → (∀ b o, b ∉ wr → b ∉ own → s₂.heap.get? b = some o → h₃.get? b = some o) → s₂.heap.objs.size + 2 ≤ h₃.objs.size →
        wpAny (model prog w) A (forIn ifs true fun c r => if r = true then do let ok ← isTrue c (compEnvC scope cl C env) (eval c (compEnvC scope cl C env)); pure (ForInStep.yield ok) else pure (ForInStep.yield r))
          (fun ok s₃ => Ch own { s₂ with heap := h₃, toks := tk₃ } s₃ ∧ if ok = true then wpAny (model prog w) A (eval elt (compEnvC scope cl C env)) (fun y s₄ => Ch own s₃ s₄ ∧ J (i + 1) (ys ++ [y]) s₄.heap) E' s₃ else J (i + 1) ys s₃.heap)
          E' { s₂ with heap := h₃, toks := tk₃ }) ∧
      (∀ D h' tk ys, s₂.heap.get? D = none → h'.PlainList D ys → ys.size ≤ n → J n ys.toList h' → (∀ b o, b ∉ wr → b ∉ own → s₂.heap.get? b = some o → h'.get? b = some o) → Q (.ref D) { s₂ with heap := h', toks := tk })

/-- a list comprehension of one clause, by an invariant over what is taken and what is made -/
theorem comp_inv {elt iter : Expr} {x : Str} {px : Pos} {ifs : List Expr} {scope : Scope} {cl : List (Str × Addr)} {pos : Pos} {Q : Value → Shared → Prop}
    (hclos : closureFor scope env = pure cl) (hcell : ∀ y ∈ scope.names, y.2 ≠ .cell) (hkind : scope.kind = .function)
    (hnames : ∀ y ∈ scope.names, y.2 = .local → scope.names.lookup y.1 = some .local) (hx : scope.names.lookup x = some .local)
    (h : wpAny (model prog w) A (eval iter env) (fun xv s₁ => wpAny (model prog w) A (pyIter xv) (fun it s₂ => CompPkg prog w A env scope cl x ifs elt Q it s₂) E s₁) E s)
    (hs : ∀ x, foldedSetIterable iter env x = pure x := by intro _; rfl) :
    wpAny (model prog w) A (eval (.ListComp elt [⟨.Name x px, iter, ifs, 0⟩] scope pos) env) Q E s := by
  rw [eval_ListComp]
  refine wpAny_comprehension_free (use := none) rfl hs hclos hkind hnames (wpAny_mono h (fun xv s₁ h₁ => wpAny_mono h₁ (fun it s₂ h₂ => ?_) fun _ _ e => e) fun _ _ e => e)
  obtain ⟨I, fp, wr, own, n, P, St, J, rfl, W, hsz, hst, hfp, hown, hJ0, hw, hJ, turn, hQ⟩ := h₂
  refine wpAny_newObj_type (wpAny_newFunctionEnv hcell (by intro y hy; simp at hy) (fun h₁ hns₁ hsb₁ => ?_) hkind)
  dsimp only at hns₁ hsb₁ ⊢
  generalize hH2 : s₂.heap.push { cls := .type "list", dict := none, data := .seq ([] : List Value).toArray } = H2 at hns₁ hsb₁ ⊢
  have hC : H2.objs.size = s₂.heap.objs.size + 1 := by rw [← hH2, Heap.size_push]
  have hDC : s₂.heap.objs.size ≠ H2.objs.size := by rw [hC]; exact Nat.ne_of_lt (Nat.lt_succ_self _)
  have hCle : s₂.heap.objs.size ≤ H2.objs.size := by rw [hC]; exact Nat.le_succ _
  have below : ∀ b, b < s₂.heap.objs.size → b ≠ H2.objs.size ∧ b ≠ s₂.heap.objs.size := fun b hb => ⟨by rw [hC]; exact Nat.ne_of_lt (Nat.lt_succ_of_lt hb), Nat.ne_of_lt hb⟩
  have hDf : s₂.heap.objs.size ∉ fp := fun hm => Nat.lt_irrefl _ (hfp _ hm)
  have hCf : H2.objs.size ∉ fp := fun hm => by have := hfp _ hm; rw [hC] at this; exact Nat.lt_irrefl _ (Nat.lt_of_succ_lt this)
  have hDO : s₂.heap.objs.size ∉ own := fun hm => Nat.lt_irrefl _ (hown _ hm).2
  have hCO : H2.objs.size ∉ own := fun hm => by have := (hown _ hm).2; rw [hC] at this; exact Nat.lt_irrefl _ (Nat.lt_of_succ_lt this)
  have old : ∀ b o, s₂.heap.get? b = some o → h₁.get? b = some o := fun b o e => hsb₁.extBut b o (below b (Heap.lt_size e)).1 (Heap.get?_push_of_some _ (hH2 ▸ Heap.get?_push_of_some _ e))
  have hacc : h₁.PlainList s₂.heap.objs.size #[] := ⟨_, hsb₁.extBut _ _ hDC (Heap.get?_push_of_some _ (hH2 ▸ Heap.get?_push_size _ rfl))⟩
  have hst₁ : St 0 h₁ := W.frame _ _ _ hst fun b _ o e => old b o e
  have fresh : ∀ a, s₂.heap.objs.size ≤ a → s₂.heap.get? a = none := fun a ha => by
    cases e : s₂.heap.get? a with
    | none => rfl
    | some o' => exact absurd (Heap.lt_size e) (Nat.not_lt.mpr ha)
  have hh1 : h₁.objs.size = s₂.heap.objs.size + 2 := by rw [hsb₁.1, Heap.size_push, hC]
  have big : ∀ h₃ : Heap, (∀ m₃, h₃.Ns H2.objs.size m₃ → s₂.heap.objs.size + 2 ≤ h₃.objs.size) := fun h₃ m₃ hn => by
    have := hn.lt; rw [hC] at this; exact this
  have loop : ∀ s₃ : Shared, s₃ = { s₂ with heap := h₁, toks := s₂.toks + ([] : List (Str × Value)).length } →
      codeAny (model prog w) A (.compLoop (.ListComp elt [⟨.Name x px, iter, ifs, 0⟩] scope pos) 0 (.ref I) (.ref s₂.heap.objs.size) (compEnvC scope cl H2.objs.size env))
        (compPost (model prog w) A E none Q (.ref s₂.heap.objs.size) H2.objs.size) s₃ := by
    rintro s₃ rfl
    refine comp_loop_inv (hsz := hsz) (cenv := compEnvC scope cl H2.objs.size env) W J (lookup_relabel_local hx) (by simp [compEnvC, relabel, hkind]) hDC hDf hCf (fun b hb => (hown b hb).1) hDO hCO hst₁ hacc hns₁
      (hJ _ _ _ _ hJ0 (fun b o _ _ e => old b o e) (KeepT.of_keep old)) hw
      (fun i ys h h' hj hk ht => hJ i ys h h' hj (fun b o hb hbw e => hk b o (below b hb).1 hbw (below b hb).2 e) ht)
      (fun i v h₂ tk₂ m₂ ys E' hi hP hn hm hj hys hk => turn H2.objs.size i v h₂ tk₂ m₂ ys E' hCle hi hP hn hm hj hys (fun b o hbw hbo e => hk b o (below b (Heap.lt_size e)).1 hbw (below b (Heap.lt_size e)).2 hbo (old b o e)) (big h₂ m₂ hn)) ?_
    intro h' tk m' ys hn hl hys hj hk
    exact ⟨m', hn, fun h'' hs'' => hQ s₂.heap.objs.size h'' tk ys (fresh _ (Nat.le_refl _)) (hl.extBut hs''.extBut hDC) hys
      (hJ _ _ _ _ hj (fun b o hb _ e => hs''.extBut b o (below b hb).1 e) (keepT_of (wr := []) (fun _ h => nomatch h) hl hn fun b o hb _ _ e => hs''.extBut b o hb e))
      fun b o hbw hbo e => hs''.extBut b o (below b (Heap.lt_size e)).1 (hk b o (below b (Heap.lt_size e)).1 hbw (below b (Heap.lt_size e)).2 hbo (old b o e))⟩
  exact codeAny_compStart_list (loop _ rfl) (W.self 0 _ _ _ hst₁ (loop _ rfl))
end
end Mine
end A4

section A5
open PySem PySem.W PyProof.Rows PySem.Spec PySem.Calls
set_option maxHeartbeats 200000
namespace Mine
/-- the ledger within a comprehension's turn: two cells and the source -/
theorem news_comp {g h h₃ : Heap} {L C l c1 c2 : Addr} {o1 o2 o o' : Obj} (N : News g L h [(c1, o1), (c2, o2), (l, o)]) (hC : h.objs.size ≤ C) (hk : ∀ b o, b ≠ l → h.get? b = some o → h₃.get? b = some o) (e : h₃.get? l = some o')
    (h1 : c1 ≠ l) (h2 : c2 ≠ l) : News g C h₃ [(c1, o1), (c2, o2), (l, o')] := by
  have a1 := N _ (.head _)
  have a2 := N _ (.tail _ (.head _))
  have a3 := N _ (.tail _ (.tail _ (.head _)))
  have lt : ∀ {b : Addr} {ob : Obj}, h.get? b = some ob → b ≠ C := fun e => Nat.ne_of_lt (Nat.lt_of_lt_of_le (Heap.lt_size e) hC)
  intro p hp
  simp only [List.mem_cons, List.mem_nil_iff, or_false] at hp
  rcases hp with rfl | rfl | rfl
  · exact ⟨hk _ _ h1 a1.1, lt a1.1, a1.2.2⟩
  · exact ⟨hk _ _ h2 a2.1, lt a2.1, a2.2.2⟩
  · exact ⟨e, lt a3.1, a3.2.2⟩
section
variable {prog : Program} {w : World} {A : Around} {s : Shared} {E : Value → Shared → Prop} {env : Env}
/-- a comprehension over a short range whose turns change one list -/
theorem range_comp {elt : Expr} {x : Str} {scope : Scope} {cl : List (Str × Addr)} {Q : Value → Shared → Prop} {r l : Addr} {k : Int} {t u v : Tok} {its : Array Value} {ln : Nat}
    (J : Nat → List Value → Heap → Prop) (hh : A.handled = none)
    (hr : IsRange s.heap r 0 k 1 t u v) (hk0 : 0 ≤ k) (hk4 : k < 4) (hl : s.heap.get? l = some (listOf its ln)) (hJ0 : J 0 [] s.heap)
    (hJ : ∀ i ys h h', J i ys h → (∀ o, h.get? l = some o → h'.get? l = some o) → KeepT h h' → J i ys h')
    (turn : ∀ C i h₃ tk₃ m₃ ys E', s.heap.objs.size ≤ C → i < k.toNat → h₃.Ns C m₃ → J i ys h₃ → ys.length ≤ i → (∀ b o, b ≠ l → s.heap.get? b = some o → h₃.get? b = some o) →
      wpAny (model prog w) A (eval elt (compEnvC scope cl C env)) (fun y s₄ => Ch [l] { s with heap := h₃, toks := tk₃ } s₄ ∧ J (i + 1) (ys ++ [y]) s₄.heap) E' { s with heap := h₃, toks := tk₃ })
    (done : ∀ D h' tk ys, s.heap.get? D = none → h'.PlainList D ys → ys.size ≤ k.toNat → J k.toNat ys.toList h' → (∀ b o, b ≠ l → s.heap.get? b = some o → h'.get? b = some o) → Q (.ref D) { s with heap := h', toks := tk }) :
    wpAny (model prog w) A (pyIter (.ref r)) (CompPkg prog w A env scope cl x [] elt Q) E s := by
  have hk' : k = 0 ∨ k = 1 ∨ k = 2 ∨ k = 3 := by omega
  have hsm : Builtin.Range.small 0 k 1 = true := by rcases hk' with rfl | rfl | rfl | rfl <;> decide +kernel
  have hsz : Builtin.Range.rangeSize 0 k 1 = k := by rcases hk' with rfl | rfl | rfl | rfl <;> decide +kernel
  refine wpAny_pyIter_range hr hsm ?_
  have hlt : l < s.heap.objs.size := Heap.lt_size hl
  have hIl : s.heap.objs.size ≠ l := Nat.ne_of_gt hlt
  have up : ∀ (g : Heap), (∀ b o, b ∉ [s.heap.objs.size] → b ∉ [l] → (s.heap.push { cls := .type "range_iterator", data := .fields #[rawInt 0, rawInt (Builtin.Range.rangeSize 0 k 1), rawInt 1] }).get? b = some o → g.get? b = some o) →
      ∀ b o, b ≠ l → s.heap.get? b = some o → g.get? b = some o := fun g hk b o hb e =>
    hk b o (fun hm => by rw [List.mem_singleton.mp hm] at e; exact Nat.lt_irrefl _ (Heap.lt_size e)) (fun hm => hb (List.mem_singleton.mp hm)) (Heap.get?_push_of_some _ e)
  refine ⟨s.heap.objs.size, [s.heap.objs.size], [s.heap.objs.size], [l], k.toNat, _, _, J, rfl, Walks.range hh _ 0 1 k.toNat, ?_, ?_, ?_, ?_, ?_, ?_, ?_, ?_, ?_⟩
  · have : k.toNat < 4 := by omega
    rw [sizeLine_eq]; omega
  · show (s.heap.push _).get? s.heap.objs.size = _
    rw [Heap.get?_push_size _ rfl, hsz]
    have e1 : (0 : Int) + ((0 : Nat) : Int) * 1 = 0 := by decide
    have e2 : ((k.toNat : Nat) : Int) - ((0 : Nat) : Int) = k := by omega
    rw [e1, e2]
  · intro b hb
    show b < (s.heap.push _).objs.size
    rw [List.mem_singleton.mp hb, Heap.size_push]; exact Nat.lt_succ_self _
  · intro b hb
    rw [List.mem_singleton.mp hb]
    refine ⟨fun h => hIl (List.mem_singleton.mp h).symm, ?_⟩
    show l < (s.heap.push _).objs.size
    rw [Heap.size_push]; exact Nat.lt_succ_of_lt hlt
  · exact hJ _ _ _ _ hJ0 (fun o e => Heap.get?_push_of_some _ e) (KeepT.of_keep fun b o e => Heap.get?_push_of_some _ e)
  · intro i h st b hb vs k' e
    rw [List.mem_singleton.mp hb] at e
    have st' : h.get? s.heap.objs.size = _ := st
    rw [st'] at e
    have e' := congrArg Obj.cls (Option.some.inj e)
    simp at e'
  · intro i ys h h' j hk ht
    refine hJ i ys h h' j (fun o e => hk l o ?_ (fun hm => hIl (List.mem_singleton.mp hm).symm) e) ht
    show l < (s.heap.push _).objs.size
    rw [Heap.size_push]; exact Nat.lt_succ_of_lt hlt
  · intro C i v h₃ tk₃ m₃ ys E' hC hi hP hn hm hj hys hk hsz3
    have hC' : s.heap.objs.size ≤ C := Nat.le_of_succ_le (by simpa [Heap.size_push] using hC)
    exact wpAny_pure ⟨⟨_, _, rfl, fun _ _ _ e => e⟩, turn C i h₃ tk₃ m₃ ys E' hC' hi hn hj hys (up h₃ hk)⟩
  · intro D h' tk ys hD hl' hys hj hk
    refine done D h' tk ys ?_ hl' hys hj (up h' hk)
    cases e : s.heap.get? D with
    | none => rfl
    | some o => have := Heap.get?_push_of_some { cls := .type "range_iterator", data := .fields #[rawInt 0, rawInt (Builtin.Range.rangeSize 0 k 1), rawInt 1] } e; rw [this] at hD; cases hD
end
end Mine
end A5

section A6
open PySem PySem.W PyProof.Rows PySem.Spec PySem.Calls
set_option maxHeartbeats 200000
namespace Mine
open Classical in
/-- the tuples that a heap has beyond its ground -/
noncomputable def newTups (g h : Heap) : List (Addr × Obj) :=
  (List.range h.objs.size).filterMap fun a => if ∃ vs n, h.get? a = some (tupO vs n) ∧ g.get? a = none then (h.get? a).map fun o => (a, o) else none
theorem mem_newTups {g h : Heap} {p : Addr × Obj} : p ∈ newTups g h ↔ h.get? p.1 = some p.2 ∧ g.get? p.1 = none ∧ ∃ vs n, p.2 = tupO vs n := by
  obtain ⟨a, o⟩ := p
  unfold newTups
  rw [List.mem_filterMap]
  constructor
  · rintro ⟨b, hb, e⟩
    split at e
    · rename_i hc
      obtain ⟨vs, n, h1, h2⟩ := hc
      rw [h1] at e
      simp at e
      obtain ⟨rfl, rfl⟩ := e
      exact ⟨h1, h2, vs, n, rfl⟩
    · cases e
  · rintro ⟨h1, h2, vs, n, rfl⟩
    refine ⟨a, List.mem_range.mpr (Heap.lt_size h1), ?_⟩
    rw [if_pos ⟨vs, n, h1, h2⟩, h1]; rfl
/-- every new tuple stays -/
def KeepN (g h h' : Heap) : Prop := ∀ b vs n, g.get? b = none → h.get? b = some (tupO vs n) → h'.get? b = some (tupO vs n)
mutual
theorem At.monoN {g h h' : Heap} (k : KeepN g h h') : ∀ {t : T} {v : Value}, At g h t v → At g h' t v
  | .mk b ks, v, ⟨a, bv, kv, n, e, ho, hn, hz, hb, hk⟩ => ⟨a, bv, kv, n, e, k _ _ _ hn ho, hn, hz, hb, AtL.monoN k hk⟩
theorem AtL.monoN {g h h' : Heap} (k : KeepN g h h') : ∀ {ts : Ts} {vs : List Value}, AtL g h ts vs → AtL g h' ts vs
  | .nil, _, e => e
  | .cons _ _, _, ⟨v, r, e, h1, h2⟩ => ⟨v, r, e, At.monoN k h1, AtL.monoN k h2⟩
end
theorem KeepN.of_sub {g h h' : Heap} (k : ∀ p ∈ newTups g h, h'.get? p.1 = some p.2) : KeepN g h h' := fun b vs n hg hb => k (b, tupO vs n) (mem_newTups.mpr ⟨hb, hg, vs, n, rfl⟩)
mutual
theorem At.root {g hR h : Heap} (k : hR.StaysIn g) : ∀ {t : T} {v : Value}, At g h t v → At hR h t v
  | .mk b ks, v, ⟨a, bv, kv, n, e, ho, hn, hz, hb, hk⟩ => ⟨a, bv, kv, n, e, ho, fresh_of_stays k hn, hz, hb, AtL.root k hk⟩
theorem AtL.root {g hR h : Heap} (k : hR.StaysIn g) : ∀ {ts : Ts} {vs : List Value}, AtL g h ts vs → AtL hR h ts vs
  | .nil, _, e => e
  | .cons _ _, _, ⟨v, r, e, h1, h2⟩ => ⟨v, r, e, At.root k h1, AtL.root k h2⟩
end
theorem newTups_ne {g h : Heap} {l : Addr} {o : Obj} (hl : h.get? l = some o) (hc : o.cls ≠ .type "tuple") : ∀ p ∈ newTups g h, p.1 ≠ l := by
  intro p hp e
  obtain ⟨h1, _, vs, n, h2⟩ := mem_newTups.mp hp
  rw [e, hl] at h1
  rw [Option.some.inj h1, h2] at hc
  exact hc rfl
theorem news_tups {g h : Heap} {L : Addr} {m : Str → Option Value} {news : List (Addr × Obj)} (F : Fr g L h m) (N : News g L h news) : News g L h (news ++ newTups g h) := by
  intro p hp
  rcases List.mem_append.mp hp with hp | hp
  · exact N p hp
  · obtain ⟨h1, h2, vs, n, h3⟩ := mem_newTups.mp hp
    refine ⟨h1, fun e => ?_, h2⟩
    obtain ⟨o, es, ep, ho, hd, _⟩ := F.ns
    rw [e, ho] at h1
    rw [Option.some.inj h1, h3] at hd; cases hd
/-- the ledger behind a comprehension: the list made, two cells, the source -/
theorem news_list {g h h' : Heap} {L D l c1 c2 : Addr} {m : Str → Option Value} {o1 o2 o o' od : Obj} (N : News g L h [(c1, o1), (c2, o2), (l, o)]) (F : Fr g L h' m) (hk : ∀ b o, b ≠ l → h.get? b = some o → h'.get? b = some o) (e : h'.get? l = some o')
    (hD : h'.get? D = some od) (hD0 : h.get? D = none) (h1 : c1 ≠ l) (h2 : c2 ≠ l) {m' : Str → Option Value} (F0 : Fr g L h m') : News g L h' [(D, od), (c1, o1), (c2, o2), (l, o')] := by
  have a1 := N _ (.head _)
  have a2 := N _ (.tail _ (.head _))
  have a3 := N _ (.tail _ (.tail _ (.head _)))
  intro p hp
  simp only [List.mem_cons, List.mem_nil_iff, or_false] at hp
  rcases hp with rfl | rfl | rfl | rfl
  · refine ⟨hD, fun q => ?_, ?_⟩
    · obtain ⟨oL, _, _, hoL, _⟩ := F0.ns
      simp only at q
      rw [q, hoL] at hD0; cases hD0
    · cases q : g.get? D with
      | none => rfl
      | some o => have := F0.keep _ _ q; rw [this] at hD0; cases hD0
  · exact ⟨hk _ _ h1 a1.1, a1.2⟩
  · exact ⟨hk _ _ h2 a2.1, a2.2⟩
  · exact ⟨e, a3.2⟩
end Mine
end A6

section T1
open PySem PySem.W PyProof.Rows PySem.Spec PySem.Calls
set_option maxHeartbeats 200000
namespace Mine
theorem hun0 {dp un : Nat} {fr : Option (List Env)} {gd : Option (List Code)} {env : Env} (h : un + 100 < cLine) : ((Ar dp un fr gd).deeper env).units < cLine := by
  show un + 3 < cLine
  omega
section
variable {prog : Program} {w : World} {A : Around} {E : Value → Shared → Prop} {s : Shared} {h₀ : Heap} {L a b : Addr} {m : Str → Option Value} {news : List (Addr × Obj)} {v : Value} {vs : List Value} {n k : Nat}
theorem ne_uneq {Q : Value → Shared → Prop} (N : News h₀ L s.heap news) (ha : (a, ({ cls := .type "list", data := .seq ⟨v :: vs⟩ n } : Obj)) ∈ news) (hb : (b, listOf #[] k) ∈ news) (hu : A.units < cLine) (h : Q (.bool true) s) :
    wpAny (model prog w) A (compareOp .NotEq (.ref a) (.ref b)) Q E s :=
  SeqAt.RcNeAt.lists_lengths (items := ⟨v :: vs⟩) (items2 := #[]) ⟨_, (N _ ha).1, rfl, n, rfl⟩ ⟨_, (N _ hb).1, rfl, k, rfl⟩ (by simp) hu prog w E Q h
theorem ne_nil {Q : Value → Shared → Prop} (N : News h₀ L s.heap news) (ha : (a, ({ cls := .type "list", data := .seq ⟨[]⟩ n } : Obj)) ∈ news) (hb : (b, listOf #[] k) ∈ news) (hu : A.units < cLine) (h : Q (.bool false) s) :
    wpAny (model prog w) A (compareOp .NotEq (.ref a) (.ref b)) Q E s :=
  SeqAt.RcNeAt.lists (items := ⟨[]⟩) (items2 := #[]) (e := fun _ => true) ⟨_, (N _ ha).1, rfl, n, rfl⟩ ⟨_, (N _ hb).1, rfl, k, rfl⟩ rfl hu (fun j h1 h2 => absurd h1 (Nat.not_lt_zero _)) prog w E Q h
end
theorem vals_len {b : Bg} {bv : List Value} (h : b.vals bv) : bv.length ≤ 3 := by
  cases b <;> simp only [Bg.vals] at h
  all_goals (first | (obtain ⟨_, _, rfl⟩ := h; simp) | (obtain ⟨_, rfl⟩ := h; simp) | (subst h; simp))
theorem add_one {w : World} {A : Around} {E Q : Value → Shared → Prop} {prog : Program} {s : Shared} {g : Heap} {L t b : Addr} {m : Str → Option Value} {news : List (Addr × Obj)} {vs ws : List Value} {n k : Nat} {bg : Bg}
    (F : Fr g L s.heap m) (N : News g L s.heap news) (ht : (t, tupO vs n) ∈ news) (hb : (b, tupO ws k) ∈ news) (hv : bg.vals vs) (hw : ws.length ≤ 900)
    (h : ∀ a h' n', Fr g L h' m → News g L h' news → h'.get? a = some (tupO (vs ++ ws) n') → g.get? a = none → (vs ++ ws).length ≤ 1000 → Q (.ref a) { s with heap := h' }) :
    wpAny (model prog w) A (binaryOp .Add (.ref t) (.ref b)) Q E s := by
  have h3 := vals_len hv
  have hlen : (vs ++ ws).length ≤ 1000 := by rw [List.length_append]; omega
  refine add_tuples F N (News.isTup N ht) (News.isTup N hb) ?_ ?_ ?_ (by rw [sizeLine_eq]; omega)
  · intro e; subst e
    exact h b s.heap k F N (N _ hb).1 (N _ hb).2.2 hlen
  · intro e0 e; subst e
    exact h t s.heap n F N (by rw [List.append_nil]; exact (N _ ht).1) (N _ ht).2.2 hlen
  · intro _ _ h' F' N'
    have z := N' _ (List.Mem.head _)
    exact h _ h' 0 F' (fun p hp => N' p (List.Mem.tail _ hp)) z.1 z.2.2 hlen
theorem at_end {g hR h₄ h : Heap} {L a : Addr} {news tr : List (Addr × Obj)} {b : Bg} {ts : Ts} {bv kv : List Value} {n : Nat} (stg : hR.StaysIn g) (htr : newTups g h₄ = tr) (hk : AtL g h₄ ts kv)
    (N : News g L h news) (hsub : ∀ p ∈ tr, p ∈ news) (ha : h.get? a = some (tupO (bv ++ kv) n)) (h0 : g.get? a = none) (hz : (bv ++ kv).length ≤ 1000) (hb : b.vals bv) : At hR h (.mk b ts) (.ref a) := by
  subst htr
  exact ⟨a, bv, kv, n, rfl, ha, fresh_of_stays stg h0, hz, hb, AtL.root stg (AtL.monoN (KeepN.of_sub fun p hp => (N p (hsub p hp)).1) hk)⟩
def tsz : Nat → Nat
  | 0 => 1
  | d + 1 => 1 + 6 * tsz d
end Mine
end T1

section F1
open PySem PySem.W PyProof.Rows PySem.Spec PySem.Calls
set_option maxHeartbeats 8000000
namespace Mine
theorem topOffF1 : True := by
  w_top off
  trivial

local macro_rules | `(tactic| mul_fits) => `(tactic| with_unfolding_all exact Mine.mulok_fmod _ _)
theorem take_ok {w : World} {mean : ExcName → Option Value} {mg mb : Str → Option Value} {hR : Heap} {dp un : Nat} {fr : Option (List Env)} {gd : Option (List Code)} {s : Shared} {Q E : Value → Shared → Prop}
    {l : Addr} {x y : Int} {tx ty : Tok} {n : Nat} {top : Int} {tt : Tok}
    (X : (hd.heap_39 w.params).In hR) (T : Top hd.view_39 (looseW hd.view_39 [Str.ofString "ChanError"]) mean mg mb hR) (st : hR.StaysIn s.heap) (hd : dp + 10 < recursionLimit)
    (hl : s.heap.get? l = some (listOf #[.int x tx, .int y ty] n)) (hl0 : hR.get? l = none) (hy0 : 0 ≤ y) (hy1 : y < 2147483647) (ht0 : 0 < top) (ht1 : top ≤ 1000)
    (ret : ∀ r t x' tx' y' ty' n' h' tk', Keep1 l s.heap h' → h'.get? l = some (listOf #[.int x' tx', .int y' ty'] n') → 0 ≤ y' → y' < 2147483647 → 0 ≤ r → r < top → Q (.int r t) { s with heap := h', toks := tk' }) :
    wpAny (model PySem.Challenge.rw_pq0225_01.row.prog w) (Ar dp un fr gd) (call (.ref 73) [.ref l, .int top tt]) Q E s := by
  revert X; k_fill; intro X
  refine' enter [(l, listOf #[.int x tx, .int y ty] n)] X T st ?h0 ?k6 ?k7 ?k8 ?k9 ?kB ?h ?c2 ?c3 ?c4 ?c5
  case h0 => intro q hq; rw [List.mem_singleton.mp hq]; exact ⟨hl, hl0⟩
  case k6 => k_is
  case k7 => k_is
  case k8 => show dp < _; omega
  case k9 => exact BindsTo.of_eq rfl
  case kB => exact locs rfl
  case c2 => exact rfl
  case c3 => exact rfl
  case c4 => exact rfl
  case c5 => decide
  case h =>
    intro g' L' h' F' N' l1 X' T' stg kG'
    k_lt l1
    dsimp only
    (try k_unmd); (try k_fold)
    k_steps
    all_goals (try simp only [List.getD_cons_zero, Int.toNat_zero] at *)
    · refine ret _ _ _ _ _ _ _ _ _ (fun b o hb e => keep1 (by assumption) kG' hb e) (at1 (by assumption)) hy0 hy1 ?_ ?_
      · exact (fmod_bounds _ ht0).1
      · exact (fmod_bounds _ ht0).2
    · refine ret _ _ _ _ _ _ _ _ _ (fun b o hb e => keep1 (by assumption) kG' hb e) (at1 (by assumption)) ?_ ?_ ?_ ?_
      · exact (fmod_bounds _ (by decide)).1
      · exact (fmod_bounds _ (by decide)).2
      · exact (fmod_bounds _ ht0).1
      · exact (fmod_bounds _ ht0).2

/-- take, in a walk -/
theorem take_use {w : World} {mean : ExcName → Option Value} {mg mb : Str → Option Value} {g : Heap} {dp un : Nat} {fr : Option (List Env)} {gd : Option (List Code)} {s : Shared} {Q E : Value → Shared → Prop} {L : Addr} {m : Str → Option Value} {news : List (Addr × Obj)} {nf : Obj → List (Addr × Obj)}
    {l : Addr} {x y : Int} {tx ty : Tok} {n : Nat} {top : Int} {tt : Tok}
    (X : (hd.heap_39 w.params).In g) (T : Top hd.view_39 (looseW hd.view_39 [Str.ofString "ChanError"]) mean mg mb g) (F : Fr g L s.heap m) (N : News g L s.heap news) (hd : dp + 10 < recursionLimit)
    (U : ∀ o', Upd l (listOf #[.int x tx, .int y ty] n) o' news (nf o')) (hy0 : 0 ≤ y) (hy1 : y < 2147483647) (ht0 : 0 < top) (ht1 : top ≤ 1000)
    (ret : ∀ r t x' tx' y' ty' n' h' tk', Fr g L h' m → News g L h' (nf (listOf #[.int x' tx', .int y' ty'] n')) → 0 ≤ y' → y' < 2147483647 → 0 ≤ r → r < top → Q (.int r t) { s with heap := h', toks := tk' }) :
    wpAny (model PySem.Challenge.rw_pq0225_01.row.prog w) (Ar dp un fr gd) (call (.ref 73) [.ref l, .int top tt]) Q E s := by
  have z := N _ (upd_mem (U (listOf #[.int x tx, .int y ty] n)))
  refine take_ok X T (fun b o e => F.keep b o e) hd z.1 z.2.2 hy0 hy1 ht0 ht1 ?_
  intro r t x' tx' y' ty' n' h' tk' k hl' h1 h2 h3 h4
  exact ret r t x' tx' y' ty' n' h' tk' (fr_keep1 F k z.2.1 z.2.2) (news_keep1 N (U _) k hl') h1 h2 h3 h4
end Mine
end F1

section F2
open PySem PySem.W PyProof.Rows PySem.Spec PySem.Calls
set_option maxHeartbeats 8000000
namespace Mine
local macro_rules | `(tactic| walk_at "no such step") => `(tactic| fail)
theorem topOffF2 : True := by
  w_top off
  trivial

theorem pool_ok {w : World} {mean : ExcName → Option Value} {mg mb : Str → Option Value} {hR : Heap} {dp un : Nat} {fr : Option (List Env)} {gd : Option (List Code)} {s : Shared} {Q E : Value → Shared → Prop}
    {a : Addr} {vs : List Value} {ns : List Int} {tt : Tok}
    (X : (hd.heap_39 w.params).In hR) (T : Top hd.view_39 (looseW hd.view_39 [Str.ofString "ChanError"]) mean mg mb hR) (st : hR.StaysIn s.heap) (hd : dp + 10 < recursionLimit)
    (hL : hR.IsList a vs.toArray) (hI : IntsAre vs ns) (hlay : (PyData.list (List.map PyData.int ns)).layable0 = true) (hlen : ns.length ≤ 63)
    (ret : ∀ l x' tx' y' ty' n' h' tk', (∀ b o, s.heap.get? b = some o → h'.get? b = some o) → h'.get? l = some (listOf #[.int x' tx', .int y' ty'] n') → s.heap.get? l = none → 0 ≤ y' → y' < 2147483647 → Q (.ref l) { s with heap := h', toks := tk' }) :
    wpAny (model PySem.Challenge.rw_pq0225_01.row.prog w) (Ar dp un fr gd) (call (.ref 66) [.ref a, .int 0 tt]) Q E s := by
  revert X; k_fill; intro X
  refine' enter [] X T st ?h0 ?k6 ?k7 ?k8 ?k9 ?kB ?h ?c2 ?c3 ?c4 ?c5
  case h0 => intro q hq; cases hq
  case k6 => k_is
  case k7 => k_is
  case k8 => show dp < _; omega
  case k9 => exact BindsTo.of_eq rfl
  case kB => exact locs rfl
  case c2 => exact rfl
  case c3 => exact rfl
  case c4 => exact rfl
  case c5 => decide
  case h =>
    intro g' L' h' F' N' l1 X' T' stg kG'
    k_lt l1
    have hLg : g'.IsList a vs.toArray := stays_list stg hL
    dsimp only
    (try k_unmd); (try k_fold)
    k_steps
    all_goals refine ret _ _ _ _ _ _ _ _ (fun b o e => keep0 (by assumption) kG' e) (at1 (by assumption)) (fresh0 kG' (by assumption) (List.Mem.head _)) (fmod_bounds _ (by decide)).1 (fmod_bounds _ (by decide)).2
end Mine
end F2

section F3
open PySem PySem.W PyProof.Rows PySem.Spec PySem.Calls
set_option maxHeartbeats 8000000
namespace Mine
theorem topOffF3 : True := by
  w_top off
  trivial
local macro_rules | `(tactic| walk_at "call builtin:len") => `(tactic| (k_here; (with_reducible show wpAny _ _ (call (Value.builtin "len") [Value.ref _]) _ _ _); k_dflt (refine' len_tup2 ?k1 ?k2 ?k3 ?_; (case k1 => k_asm); (case k2 => k_mem); (case k3 => assumption); k_whole)))
local macro_rules | `(tactic| walk_at "subscriptTail") => `(tactic| (k_here; (with_reducible show wpAny _ _ (subscriptTail _ _ (Value.ref _) (Value.int 0 _)) _ _ _); k_dflt (refine' item_tup0 ?k1 ?k2 ?_ ?k4; (case k4 => with_unfolding_all rfl); (case k1 => k_asm); (case k2 => k_mem); k_whole)))
local macro_rules | `(tactic| walk_at "subscriptTail") => `(tactic| (k_here; (with_reducible show wpAny _ _ (subscriptTail _ _ (Value.ref _) (Value.int 1 _)) _ _ _); k_dflt (refine' item_tup1 ?k1 ?k2 ?_ ?k4; (case k4 => with_unfolding_all rfl); (case k1 => k_asm); (case k2 => k_mem); k_whole)))

local macro_rules | `(tactic| walk_at "compareOp In") => `(tactic| (k_here; (with_reducible show wpAny _ _ (compareOp CmpOp.In _ (Value.ref _)) _ _ _); (refine' in_two ?k1 ?k2 ?k3 ?k4 ?k5 ?_; (case k1 => k_asm); (case k2 => k_mem); (case k3 => decide +kernel); (case k4 => first | with_reducible exact SeqAt.EqAt.str_int _ _ _ _ | with_reducible exact SeqAt.EqAt.str_none _ _ | (with_reducible refine eq_strs (b := true) ?_; decide +kernel) | (with_reducible refine eq_strs (b := false) ?_; decide +kernel) | (refine' eq_str_tup ?e1 ?e2 ?e3; (case e1 => k_asm); (case e2 => k_mem); (case e3 => assumption))); (case k5 => first | with_reducible exact SeqAt.EqAt.str_int _ _ _ _ | with_reducible exact SeqAt.EqAt.str_none _ _ | (with_reducible refine eq_strs (b := true) ?_; decide +kernel) | (with_reducible refine eq_strs (b := false) ?_; decide +kernel) | (refine' eq_str_tup ?e1 ?e2 ?e3; (case e1 => k_asm); (case e2 => k_mem); (case e3 => assumption))))))
local macro_rules | `(tactic| walk_at "compareOp NotIn") => `(tactic| (k_here; (with_reducible show wpAny _ _ (compareOp CmpOp.NotIn _ (Value.ref _)) _ _ _); (refine' notIn_two ?k1 ?k2 ?k3 ?k4 ?k5 ?_; (case k1 => k_asm); (case k2 => k_mem); (case k3 => decide +kernel); (case k4 => first | with_reducible exact SeqAt.EqAt.str_int _ _ _ _ | with_reducible exact SeqAt.EqAt.str_none _ _ | (with_reducible refine eq_strs (b := true) ?_; decide +kernel) | (with_reducible refine eq_strs (b := false) ?_; decide +kernel) | (refine' eq_str_tup ?e1 ?e2 ?e3; (case e1 => k_asm); (case e2 => k_mem); (case e3 => assumption))); (case k5 => first | with_reducible exact SeqAt.EqAt.str_int _ _ _ _ | with_reducible exact SeqAt.EqAt.str_none _ _ | (with_reducible refine eq_strs (b := true) ?_; decide +kernel) | (with_reducible refine eq_strs (b := false) ?_; decide +kernel) | (refine' eq_str_tup ?e1 ?e2 ?e3; (case e1 => k_asm); (case e2 => k_mem); (case e3 => assumption))))))
local macro_rules | `(tactic| walk_at "compareOp In none ref") => `(tactic| (k_here; (with_reducible show wpAny _ _ (compareOp CmpOp.In _ (Value.ref _)) _ _ _); (refine' in_two ?k1 ?k2 ?k3 ?k4 ?k5 ?_; (case k1 => k_asm); (case k2 => k_mem); (case k3 => decide +kernel); (case k4 => first | with_reducible exact SeqAt.EqAt.str_int _ _ _ _ | with_reducible exact SeqAt.EqAt.str_none _ _ | (with_reducible refine eq_strs (b := true) ?_; decide +kernel) | (with_reducible refine eq_strs (b := false) ?_; decide +kernel) | (refine' eq_str_tup ?e1 ?e2 ?e3; (case e1 => k_asm); (case e2 => k_mem); (case e3 => assumption))); (case k5 => first | with_reducible exact SeqAt.EqAt.str_int _ _ _ _ | with_reducible exact SeqAt.EqAt.str_none _ _ | (with_reducible refine eq_strs (b := true) ?_; decide +kernel) | (with_reducible refine eq_strs (b := false) ?_; decide +kernel) | (refine' eq_str_tup ?e1 ?e2 ?e3; (case e1 => k_asm); (case e2 => k_mem); (case e3 => assumption))))))
local macro_rules | `(tactic| walk_at "compareOp NotIn none ref") => `(tactic| (k_here; (with_reducible show wpAny _ _ (compareOp CmpOp.NotIn _ (Value.ref _)) _ _ _); (refine' notIn_two ?k1 ?k2 ?k3 ?k4 ?k5 ?_; (case k1 => k_asm); (case k2 => k_mem); (case k3 => decide +kernel); (case k4 => first | with_reducible exact SeqAt.EqAt.str_int _ _ _ _ | with_reducible exact SeqAt.EqAt.str_none _ _ | (with_reducible refine eq_strs (b := true) ?_; decide +kernel) | (with_reducible refine eq_strs (b := false) ?_; decide +kernel) | (refine' eq_str_tup ?e1 ?e2 ?e3; (case e1 => k_asm); (case e2 => k_mem); (case e3 => assumption))); (case k5 => first | with_reducible exact SeqAt.EqAt.str_int _ _ _ _ | with_reducible exact SeqAt.EqAt.str_none _ _ | (with_reducible refine eq_strs (b := true) ?_; decide +kernel) | (with_reducible refine eq_strs (b := false) ?_; decide +kernel) | (refine' eq_str_tup ?e1 ?e2 ?e3; (case e1 => k_asm); (case e2 => k_mem); (case e3 => assumption))))))
theorem level_ok {w : World} {mean : ExcName → Option Value} {mg mb : Str → Option Value} {hR : Heap} {dp un : Nat} {fr : Option (List Env)} {gd : Option (List Code)} {s : Shared} {Q E : Value → Shared → Prop}
    {a : Addr} {b : Bg} {vs : List Value} {n : Nat}
    (X : (hd.heap_39 w.params).In hR) (T : Top hd.view_39 (looseW hd.view_39 [Str.ofString "ChanError"]) mean mg mb hR) (st : hR.StaysIn s.heap) (hd : dp + 10 < recursionLimit) (hu : un + 100 < cLine)
    (ha : s.heap.get? a = some (tupO vs n)) (ha0 : hR.get? a = none) (hs : Head hR s.heap b vs) (hz : vs.length ≤ 1000)
    (ret : ∀ h' tk', (∀ b o, s.heap.get? b = some o → h'.get? b = some o) → Q (.bool b.lev.isSome) { s with heap := h', toks := tk' }) :
    wpAny (model PySem.Challenge.rw_pq0225_01.row.prog w) (Ar dp un fr gd) (call (.ref 106) [.ref a]) Q E s := by
  revert X; k_fill; intro X
  cases hs with
  | e0 hb e =>
    subst e
    have hh9 := hide1 ha ha0
    refine' enter [(a, tupO ([]) n)] X T st hh9 ?k6 ?k7 ?k8 ?k9 ?kB ?h ?c2 ?c3 ?c4 ?c5
    case k6 => k_is
    case k7 => k_is
    case k8 => show dp < _; omega
    case k9 => exact BindsTo.of_eq rfl
    case kB => exact locs rfl
    case c2 => exact rfl
    case c3 => exact rfl
    case c4 => exact rfl
    case c5 => decide
    case h =>
      intro g' L' h' F' N' l1 X' T' stg kG'
      k_lt l1
      dsimp only
      (try k_unmd); (try k_fold)
      k_steps
      all_goals (rw [hb] at ret; exact retB (Q := Q) (ret _ _ (keepH (by assumption) kG' (by assumption) (by first | exact fun p hp => hp | exact fun p hp => .tail _ hp | exact fun p hp => .tail _ (.tail _ hp)) (fun q hq => (hh9 q hq).1))) (by first | rfl | decide +kernel))
  | e1 hb c cv n' hc hc0 e =>
    subst e
    have hh9 := hide2 ha ha0 hc hc0
    refine' enter [(a, tupO ([.ref c]) n), (c, tupO cv n')] X T st hh9 ?k6 ?k7 ?k8 ?k9 ?kB ?h ?c2 ?c3 ?c4 ?c5
    case k6 => k_is
    case k7 => k_is
    case k8 => show dp < _; omega
    case k9 => exact BindsTo.of_eq rfl
    case kB => exact locs rfl
    case c2 => exact rfl
    case c3 => exact rfl
    case c4 => exact rfl
    case c5 => decide
    case h =>
      intro g' L' h' F' N' l1 X' T' stg kG'
      k_lt l1
      dsimp only
      (try k_unmd); (try k_fold)
      k_steps
      all_goals (rw [hb] at ret; exact retB (Q := Q) (ret _ _ (keepH (by assumption) kG' (by assumption) (by first | exact fun p hp => hp | exact fun p hp => .tail _ hp | exact fun p hp => .tail _ (.tail _ hp)) (fun q hq => (hh9 q hq).1))) (by first | rfl | decide +kernel))
  | e2 hb c d cv dv n' m hc hc0 hdd hd0 r e =>
    subst e
    have hr9 : r.length ≤ 1000 := by simp at hz; omega
    have hh9 := hide2 ha ha0 hc hc0
    refine' enter [(a, tupO (.ref c :: .ref d :: r) n), (c, tupO cv n')] X T st hh9 ?k6 ?k7 ?k8 ?k9 ?kB ?h ?c2 ?c3 ?c4 ?c5
    case k6 => k_is
    case k7 => k_is
    case k8 => show dp < _; omega
    case k9 => exact BindsTo.of_eq rfl
    case kB => exact locs rfl
    case c2 => exact rfl
    case c3 => exact rfl
    case c4 => exact rfl
    case c5 => decide
    case h =>
      intro g' L' h' F' N' l1 X' T' stg kG'
      k_lt l1
      dsimp only
      (try k_unmd); (try k_fold)
      k_steps
      all_goals (rw [hb] at ret; exact retB (Q := Q) (ret _ _ (keepH (by assumption) kG' (by assumption) (by first | exact fun p hp => hp | exact fun p hp => .tail _ hp | exact fun p hp => .tail _ (.tail _ hp)) (fun q hq => (hh9 q hq).1))) (by first | rfl | decide +kernel))
  | lvk i t u hb r e =>
    subst e
    have hr9 : r.length ≤ 1000 := by simp at hz; omega
    have hh9 := hide1 ha ha0
    refine' enter [(a, tupO (.str (Str.ofString "k") t :: .int i u :: r) n)] X T st hh9 ?k6 ?k7 ?k8 ?k9 ?kB ?h ?c2 ?c3 ?c4 ?c5
    case k6 => k_is
    case k7 => k_is
    case k8 => show dp < _; omega
    case k9 => exact BindsTo.of_eq rfl
    case kB => exact locs rfl
    case c2 => exact rfl
    case c3 => exact rfl
    case c4 => exact rfl
    case c5 => decide
    case h =>
      intro g' L' h' F' N' l1 X' T' stg kG'
      k_lt l1
      dsimp only
      (try k_unmd); (try k_fold)
      k_steps
      all_goals (rw [hb] at ret; exact retB (Q := Q) (ret _ _ (keepH (by assumption) kG' (by assumption) (by first | exact fun p hp => hp | exact fun p hp => .tail _ hp | exact fun p hp => .tail _ (.tail _ hp)) (fun q hq => (hh9 q hq).1))) (by first | rfl | decide +kernel))
  | lvn i t u hb r e =>
    subst e
    have hr9 : r.length ≤ 1000 := by simp at hz; omega
    have hh9 := hide1 ha ha0
    refine' enter [(a, tupO (.str (Str.ofString "n") t :: .int i u :: r) n)] X T st hh9 ?k6 ?k7 ?k8 ?k9 ?kB ?h ?c2 ?c3 ?c4 ?c5
    case k6 => k_is
    case k7 => k_is
    case k8 => show dp < _; omega
    case k9 => exact BindsTo.of_eq rfl
    case kB => exact locs rfl
    case c2 => exact rfl
    case c3 => exact rfl
    case c4 => exact rfl
    case c5 => decide
    case h =>
      intro g' L' h' F' N' l1 X' T' stg kG'
      k_lt l1
      dsimp only
      (try k_unmd); (try k_fold)
      k_steps
      all_goals (rw [hb] at ret; exact retB (Q := Q) (ret _ _ (keepH (by assumption) kG' (by assumption) (by first | exact fun p hp => hp | exact fun p hp => .tail _ hp | exact fun p hp => .tail _ (.tail _ hp)) (fun q hq => (hh9 q hq).1))) (by first | rfl | decide +kernel))
  | k0 hb t e =>
    subst e
    have hh9 := hide1 ha ha0
    refine' enter [(a, tupO ([.str (Str.ofString "k") t]) n)] X T st hh9 ?k6 ?k7 ?k8 ?k9 ?kB ?h ?c2 ?c3 ?c4 ?c5
    case k6 => k_is
    case k7 => k_is
    case k8 => show dp < _; omega
    case k9 => exact BindsTo.of_eq rfl
    case kB => exact locs rfl
    case c2 => exact rfl
    case c3 => exact rfl
    case c4 => exact rfl
    case c5 => decide
    case h =>
      intro g' L' h' F' N' l1 X' T' stg kG'
      k_lt l1
      dsimp only
      (try k_unmd); (try k_fold)
      k_steps
      all_goals (rw [hb] at ret; exact retB (Q := Q) (ret _ _ (keepH (by assumption) kG' (by assumption) (by first | exact fun p hp => hp | exact fun p hp => .tail _ hp | exact fun p hp => .tail _ (.tail _ hp)) (fun q hq => (hh9 q hq).1))) (by first | rfl | decide +kernel))
  | k1 hb t c cv n' hc hc0 r e =>
    subst e
    have hr9 : r.length ≤ 1000 := by simp at hz; omega
    have hh9 := hide2 ha ha0 hc hc0
    refine' enter [(a, tupO (.str (Str.ofString "k") t :: .ref c :: r) n), (c, tupO cv n')] X T st hh9 ?k6 ?k7 ?k8 ?k9 ?kB ?h ?c2 ?c3 ?c4 ?c5
    case k6 => k_is
    case k7 => k_is
    case k8 => show dp < _; omega
    case k9 => exact BindsTo.of_eq rfl
    case kB => exact locs rfl
    case c2 => exact rfl
    case c3 => exact rfl
    case c4 => exact rfl
    case c5 => decide
    case h =>
      intro g' L' h' F' N' l1 X' T' stg kG'
      k_lt l1
      dsimp only
      (try k_unmd); (try k_fold)
      k_steps
      all_goals (rw [hb] at ret; exact retB (Q := Q) (ret _ _ (keepH (by assumption) kG' (by assumption) (by first | exact fun p hp => hp | exact fun p hp => .tail _ hp | exact fun p hp => .tail _ (.tail _ hp)) (fun q hq => (hh9 q hq).1))) (by first | rfl | decide +kernel))
  | n3 hb u r e =>
    subst e
    have hr9 : r.length ≤ 1000 := by simp at hz; omega
    have hh9 := hide1 ha ha0
    refine' enter [(a, tupO (.none :: .int 3 u :: r) n)] X T st hh9 ?k6 ?k7 ?k8 ?k9 ?kB ?h ?c2 ?c3 ?c4 ?c5
    case k6 => k_is
    case k7 => k_is
    case k8 => show dp < _; omega
    case k9 => exact BindsTo.of_eq rfl
    case kB => exact locs rfl
    case c2 => exact rfl
    case c3 => exact rfl
    case c4 => exact rfl
    case c5 => decide
    case h =>
      intro g' L' h' F' N' l1 X' T' stg kG'
      k_lt l1
      dsimp only
      (try k_unmd); (try k_fold)
      k_steps
      all_goals (rw [hb] at ret; exact retB (Q := Q) (ret _ _ (keepH (by assumption) kG' (by assumption) (by first | exact fun p hp => hp | exact fun p hp => .tail _ hp | exact fun p hp => .tail _ (.tail _ hp)) (fun q hq => (hh9 q hq).1))) (by first | rfl | decide +kernel))
  | i78 hb t u r e =>
    subst e
    have hr9 : r.length ≤ 1000 := by simp at hz; omega
    have hh9 := hide1 ha ha0
    refine' enter [(a, tupO (.int 7 t :: .int 8 u :: r) n)] X T st hh9 ?k6 ?k7 ?k8 ?k9 ?kB ?h ?c2 ?c3 ?c4 ?c5
    case k6 => k_is
    case k7 => k_is
    case k8 => show dp < _; omega
    case k9 => exact BindsTo.of_eq rfl
    case kB => exact locs rfl
    case c2 => exact rfl
    case c3 => exact rfl
    case c4 => exact rfl
    case c5 => decide
    case h =>
      intro g' L' h' F' N' l1 X' T' stg kG'
      k_lt l1
      dsimp only
      (try k_unmd); (try k_fold)
      k_steps
      all_goals (rw [hb] at ret; exact retB (Q := Q) (ret _ _ (keepH (by assumption) kG' (by assumption) (by first | exact fun p hp => hp | exact fun p hp => .tail _ hp | exact fun p hp => .tail _ (.tail _ hp)) (fun q hq => (hh9 q hq).1))) (by first | rfl | decide +kernel))
  | km hb t u r e =>
    subst e
    have hr9 : r.length ≤ 1000 := by simp at hz; omega
    have hh9 := hide1 ha ha0
    refine' enter [(a, tupO (.str (Str.ofString "k") t :: .str (Str.ofString "m") u :: r) n)] X T st hh9 ?k6 ?k7 ?k8 ?k9 ?kB ?h ?c2 ?c3 ?c4 ?c5
    case k6 => k_is
    case k7 => k_is
    case k8 => show dp < _; omega
    case k9 => exact BindsTo.of_eq rfl
    case kB => exact locs rfl
    case c2 => exact rfl
    case c3 => exact rfl
    case c4 => exact rfl
    case c5 => decide
    case h =>
      intro g' L' h' F' N' l1 X' T' stg kG'
      k_lt l1
      dsimp only
      (try k_unmd); (try k_fold)
      k_steps
      all_goals (rw [hb] at ret; exact retB (Q := Q) (ret _ _ (keepH (by assumption) kG' (by assumption) (by first | exact fun p hp => hp | exact fun p hp => .tail _ hp | exact fun p hp => .tail _ (.tail _ hp)) (fun q hq => (hh9 q hq).1))) (by first | rfl | decide +kernel))
end Mine
end F3

section F4
open PySem PySem.W PyProof.Rows PySem.Spec PySem.Calls
set_option maxHeartbeats 8000000
namespace Mine
local macro_rules | `(tactic| walk_at "no such step") => `(tactic| fail)
theorem topOffF4 : True := by
  w_top off
  trivial
local macro_rules | `(tactic| walk_at "call builtin:len") => `(tactic| (k_here; (with_reducible show wpAny _ _ (call (Value.builtin "len") [Value.ref _]) _ _ _); k_dflt (refine' len_tup2 ?k1 ?k2 ?k3 ?_; (case k1 => k_asm); (case k2 => k_mem); (case k3 => assumption); k_whole)))
local macro_rules | `(tactic| walk_at "subscriptTail") => `(tactic| (k_here; (with_reducible show wpAny _ _ (subscriptTail _ _ (Value.ref _) (Value.int 0 _)) _ _ _); k_dflt (refine' item_tup0 ?k1 ?k2 ?_ ?k4; (case k4 => with_unfolding_all rfl); (case k1 => k_asm); (case k2 => k_mem); k_whole)))
local macro_rules | `(tactic| walk_at "subscriptTail") => `(tactic| (k_here; (with_reducible show wpAny _ _ (subscriptTail _ _ (Value.ref _) (Value.int 1 _)) _ _ _); k_dflt (refine' item_tup1 ?k1 ?k2 ?_ ?k4; (case k4 => with_unfolding_all rfl); (case k1 => k_asm); (case k2 => k_mem); k_whole)))

local macro_rules | `(tactic| walk_at "compareOp In") => `(tactic| (k_here; (with_reducible show wpAny _ _ (compareOp CmpOp.In _ (Value.ref _)) _ _ _); (refine' in_two ?k1 ?k2 ?k3 ?k4 ?k5 ?_; (case k1 => k_asm); (case k2 => k_mem); (case k3 => decide +kernel); (case k4 => first | with_reducible exact SeqAt.EqAt.str_int _ _ _ _ | with_reducible exact SeqAt.EqAt.str_none _ _ | (with_reducible refine eq_strs (b := true) ?_; decide +kernel) | (with_reducible refine eq_strs (b := false) ?_; decide +kernel) | (refine' eq_str_tup ?e1 ?e2 ?e3; (case e1 => k_asm); (case e2 => k_mem); (case e3 => assumption))); (case k5 => first | with_reducible exact SeqAt.EqAt.str_int _ _ _ _ | with_reducible exact SeqAt.EqAt.str_none _ _ | (with_reducible refine eq_strs (b := true) ?_; decide +kernel) | (with_reducible refine eq_strs (b := false) ?_; decide +kernel) | (refine' eq_str_tup ?e1 ?e2 ?e3; (case e1 => k_asm); (case e2 => k_mem); (case e3 => assumption))))))
local macro_rules | `(tactic| walk_at "compareOp NotIn") => `(tactic| (k_here; (with_reducible show wpAny _ _ (compareOp CmpOp.NotIn _ (Value.ref _)) _ _ _); (refine' notIn_two ?k1 ?k2 ?k3 ?k4 ?k5 ?_; (case k1 => k_asm); (case k2 => k_mem); (case k3 => decide +kernel); (case k4 => first | with_reducible exact SeqAt.EqAt.str_int _ _ _ _ | with_reducible exact SeqAt.EqAt.str_none _ _ | (with_reducible refine eq_strs (b := true) ?_; decide +kernel) | (with_reducible refine eq_strs (b := false) ?_; decide +kernel) | (refine' eq_str_tup ?e1 ?e2 ?e3; (case e1 => k_asm); (case e2 => k_mem); (case e3 => assumption))); (case k5 => first | with_reducible exact SeqAt.EqAt.str_int _ _ _ _ | with_reducible exact SeqAt.EqAt.str_none _ _ | (with_reducible refine eq_strs (b := true) ?_; decide +kernel) | (with_reducible refine eq_strs (b := false) ?_; decide +kernel) | (refine' eq_str_tup ?e1 ?e2 ?e3; (case e1 => k_asm); (case e2 => k_mem); (case e3 => assumption))))))
local macro_rules | `(tactic| walk_at "compareOp In none ref") => `(tactic| (k_here; (with_reducible show wpAny _ _ (compareOp CmpOp.In _ (Value.ref _)) _ _ _); (refine' in_two ?k1 ?k2 ?k3 ?k4 ?k5 ?_; (case k1 => k_asm); (case k2 => k_mem); (case k3 => decide +kernel); (case k4 => first | with_reducible exact SeqAt.EqAt.str_int _ _ _ _ | with_reducible exact SeqAt.EqAt.str_none _ _ | (with_reducible refine eq_strs (b := true) ?_; decide +kernel) | (with_reducible refine eq_strs (b := false) ?_; decide +kernel) | (refine' eq_str_tup ?e1 ?e2 ?e3; (case e1 => k_asm); (case e2 => k_mem); (case e3 => assumption))); (case k5 => first | with_reducible exact SeqAt.EqAt.str_int _ _ _ _ | with_reducible exact SeqAt.EqAt.str_none _ _ | (with_reducible refine eq_strs (b := true) ?_; decide +kernel) | (with_reducible refine eq_strs (b := false) ?_; decide +kernel) | (refine' eq_str_tup ?e1 ?e2 ?e3; (case e1 => k_asm); (case e2 => k_mem); (case e3 => assumption))))))
local macro_rules | `(tactic| walk_at "compareOp NotIn none ref") => `(tactic| (k_here; (with_reducible show wpAny _ _ (compareOp CmpOp.NotIn _ (Value.ref _)) _ _ _); (refine' notIn_two ?k1 ?k2 ?k3 ?k4 ?k5 ?_; (case k1 => k_asm); (case k2 => k_mem); (case k3 => decide +kernel); (case k4 => first | with_reducible exact SeqAt.EqAt.str_int _ _ _ _ | with_reducible exact SeqAt.EqAt.str_none _ _ | (with_reducible refine eq_strs (b := true) ?_; decide +kernel) | (with_reducible refine eq_strs (b := false) ?_; decide +kernel) | (refine' eq_str_tup ?e1 ?e2 ?e3; (case e1 => k_asm); (case e2 => k_mem); (case e3 => assumption))); (case k5 => first | with_reducible exact SeqAt.EqAt.str_int _ _ _ _ | with_reducible exact SeqAt.EqAt.str_none _ _ | (with_reducible refine eq_strs (b := true) ?_; decide +kernel) | (with_reducible refine eq_strs (b := false) ?_; decide +kernel) | (refine' eq_str_tup ?e1 ?e2 ?e3; (case e1 => k_asm); (case e2 => k_mem); (case e3 => assumption))))))
theorem starts_ok {w : World} {mean : ExcName → Option Value} {mg mb : Str → Option Value} {hR : Heap} {dp un : Nat} {fr : Option (List Env)} {gd : Option (List Code)} {s : Shared} {Q E : Value → Shared → Prop}
    {a : Addr} {b : Bg} {vs : List Value} {n : Nat}
    (X : (hd.heap_39 w.params).In hR) (T : Top hd.view_39 (looseW hd.view_39 [Str.ofString "ChanError"]) mean mg mb hR) (st : hR.StaysIn s.heap) (hd : dp + 10 < recursionLimit) (hu : un + 100 < cLine)
    (ha : s.heap.get? a = some (tupO vs n)) (ha0 : hR.get? a = none) (hs : Head hR s.heap b vs) (hz : vs.length ≤ 1000)
    (ret : ∀ h' tk', (∀ b o, s.heap.get? b = some o → h'.get? b = some o) → Q (.bool b.lev.isSome) { s with heap := h', toks := tk' }) :
    wpAny (model PySem.Challenge.rw_pq0225_01.row.prog w) (Ar dp un fr gd) (call (.ref 54) [.ref a]) Q E s := by
  revert X; k_fill; intro X
  cases hs with
  | e0 hb e =>
    subst e
    have hh9 := hide1 ha ha0
    refine' enter [(a, tupO ([]) n)] X T st hh9 ?k6 ?k7 ?k8 ?k9 ?kB ?h ?c2 ?c3 ?c4 ?c5
    case k6 => k_is
    case k7 => k_is
    case k8 => show dp < _; omega
    case k9 => exact BindsTo.of_eq rfl
    case kB => exact locs rfl
    case c2 => exact rfl
    case c3 => exact rfl
    case c4 => exact rfl
    case c5 => decide
    case h =>
      intro g' L' h' F' N' l1 X' T' stg kG'
      k_lt l1
      dsimp only
      (try k_unmd); (try k_fold)
      k_steps
      all_goals (rw [hb] at ret; exact retB (Q := Q) (ret _ _ (keepH (by assumption) kG' (by assumption) (by first | exact fun p hp => hp | exact fun p hp => .tail _ hp | exact fun p hp => .tail _ (.tail _ hp)) (fun q hq => (hh9 q hq).1))) (by first | rfl | decide +kernel))
  | e1 hb c cv n' hc hc0 e =>
    subst e
    have hh9 := hide2 ha ha0 hc hc0
    refine' enter [(a, tupO ([.ref c]) n), (c, tupO cv n')] X T st hh9 ?k6 ?k7 ?k8 ?k9 ?kB ?h ?c2 ?c3 ?c4 ?c5
    case k6 => k_is
    case k7 => k_is
    case k8 => show dp < _; omega
    case k9 => exact BindsTo.of_eq rfl
    case kB => exact locs rfl
    case c2 => exact rfl
    case c3 => exact rfl
    case c4 => exact rfl
    case c5 => decide
    case h =>
      intro g' L' h' F' N' l1 X' T' stg kG'
      k_lt l1
      dsimp only
      (try k_unmd); (try k_fold)
      k_steps
      all_goals (rw [hb] at ret; exact retB (Q := Q) (ret _ _ (keepH (by assumption) kG' (by assumption) (by first | exact fun p hp => hp | exact fun p hp => .tail _ hp | exact fun p hp => .tail _ (.tail _ hp)) (fun q hq => (hh9 q hq).1))) (by first | rfl | decide +kernel))
  | e2 hb c d cv dv n' m hc hc0 hdd hd0 r e =>
    subst e
    have hr9 : r.length ≤ 1000 := by simp at hz; omega
    have hh9 := hide2 ha ha0 hc hc0
    refine' enter [(a, tupO (.ref c :: .ref d :: r) n), (c, tupO cv n')] X T st hh9 ?k6 ?k7 ?k8 ?k9 ?kB ?h ?c2 ?c3 ?c4 ?c5
    case k6 => k_is
    case k7 => k_is
    case k8 => show dp < _; omega
    case k9 => exact BindsTo.of_eq rfl
    case kB => exact locs rfl
    case c2 => exact rfl
    case c3 => exact rfl
    case c4 => exact rfl
    case c5 => decide
    case h =>
      intro g' L' h' F' N' l1 X' T' stg kG'
      k_lt l1
      dsimp only
      (try k_unmd); (try k_fold)
      k_steps
      all_goals (rw [hb] at ret; exact retB (Q := Q) (ret _ _ (keepH (by assumption) kG' (by assumption) (by first | exact fun p hp => hp | exact fun p hp => .tail _ hp | exact fun p hp => .tail _ (.tail _ hp)) (fun q hq => (hh9 q hq).1))) (by first | rfl | decide +kernel))
  | lvk i t u hb r e =>
    subst e
    have hr9 : r.length ≤ 1000 := by simp at hz; omega
    have hh9 := hide1 ha ha0
    refine' enter [(a, tupO (.str (Str.ofString "k") t :: .int i u :: r) n)] X T st hh9 ?k6 ?k7 ?k8 ?k9 ?kB ?h ?c2 ?c3 ?c4 ?c5
    case k6 => k_is
    case k7 => k_is
    case k8 => show dp < _; omega
    case k9 => exact BindsTo.of_eq rfl
    case kB => exact locs rfl
    case c2 => exact rfl
    case c3 => exact rfl
    case c4 => exact rfl
    case c5 => decide
    case h =>
      intro g' L' h' F' N' l1 X' T' stg kG'
      k_lt l1
      dsimp only
      (try k_unmd); (try k_fold)
      k_steps
      all_goals (rw [hb] at ret; exact retB (Q := Q) (ret _ _ (keepH (by assumption) kG' (by assumption) (by first | exact fun p hp => hp | exact fun p hp => .tail _ hp | exact fun p hp => .tail _ (.tail _ hp)) (fun q hq => (hh9 q hq).1))) (by first | rfl | decide +kernel))
  | lvn i t u hb r e =>
    subst e
    have hr9 : r.length ≤ 1000 := by simp at hz; omega
    have hh9 := hide1 ha ha0
    refine' enter [(a, tupO (.str (Str.ofString "n") t :: .int i u :: r) n)] X T st hh9 ?k6 ?k7 ?k8 ?k9 ?kB ?h ?c2 ?c3 ?c4 ?c5
    case k6 => k_is
    case k7 => k_is
    case k8 => show dp < _; omega
    case k9 => exact BindsTo.of_eq rfl
    case kB => exact locs rfl
    case c2 => exact rfl
    case c3 => exact rfl
    case c4 => exact rfl
    case c5 => decide
    case h =>
      intro g' L' h' F' N' l1 X' T' stg kG'
      k_lt l1
      dsimp only
      (try k_unmd); (try k_fold)
      k_steps
      all_goals (rw [hb] at ret; exact retB (Q := Q) (ret _ _ (keepH (by assumption) kG' (by assumption) (by first | exact fun p hp => hp | exact fun p hp => .tail _ hp | exact fun p hp => .tail _ (.tail _ hp)) (fun q hq => (hh9 q hq).1))) (by first | rfl | decide +kernel))
  | k0 hb t e =>
    subst e
    have hh9 := hide1 ha ha0
    refine' enter [(a, tupO ([.str (Str.ofString "k") t]) n)] X T st hh9 ?k6 ?k7 ?k8 ?k9 ?kB ?h ?c2 ?c3 ?c4 ?c5
    case k6 => k_is
    case k7 => k_is
    case k8 => show dp < _; omega
    case k9 => exact BindsTo.of_eq rfl
    case kB => exact locs rfl
    case c2 => exact rfl
    case c3 => exact rfl
    case c4 => exact rfl
    case c5 => decide
    case h =>
      intro g' L' h' F' N' l1 X' T' stg kG'
      k_lt l1
      dsimp only
      (try k_unmd); (try k_fold)
      k_steps
      all_goals (rw [hb] at ret; exact retB (Q := Q) (ret _ _ (keepH (by assumption) kG' (by assumption) (by first | exact fun p hp => hp | exact fun p hp => .tail _ hp | exact fun p hp => .tail _ (.tail _ hp)) (fun q hq => (hh9 q hq).1))) (by first | rfl | decide +kernel))
  | k1 hb t c cv n' hc hc0 r e =>
    subst e
    have hr9 : r.length ≤ 1000 := by simp at hz; omega
    have hh9 := hide2 ha ha0 hc hc0
    refine' enter [(a, tupO (.str (Str.ofString "k") t :: .ref c :: r) n), (c, tupO cv n')] X T st hh9 ?k6 ?k7 ?k8 ?k9 ?kB ?h ?c2 ?c3 ?c4 ?c5
    case k6 => k_is
    case k7 => k_is
    case k8 => show dp < _; omega
    case k9 => exact BindsTo.of_eq rfl
    case kB => exact locs rfl
    case c2 => exact rfl
    case c3 => exact rfl
    case c4 => exact rfl
    case c5 => decide
    case h =>
      intro g' L' h' F' N' l1 X' T' stg kG'
      k_lt l1
      dsimp only
      (try k_unmd); (try k_fold)
      k_steps
      all_goals (rw [hb] at ret; exact retB (Q := Q) (ret _ _ (keepH (by assumption) kG' (by assumption) (by first | exact fun p hp => hp | exact fun p hp => .tail _ hp | exact fun p hp => .tail _ (.tail _ hp)) (fun q hq => (hh9 q hq).1))) (by first | rfl | decide +kernel))
  | n3 hb u r e =>
    subst e
    have hr9 : r.length ≤ 1000 := by simp at hz; omega
    have hh9 := hide1 ha ha0
    refine' enter [(a, tupO (.none :: .int 3 u :: r) n)] X T st hh9 ?k6 ?k7 ?k8 ?k9 ?kB ?h ?c2 ?c3 ?c4 ?c5
    case k6 => k_is
    case k7 => k_is
    case k8 => show dp < _; omega
    case k9 => exact BindsTo.of_eq rfl
    case kB => exact locs rfl
    case c2 => exact rfl
    case c3 => exact rfl
    case c4 => exact rfl
    case c5 => decide
    case h =>
      intro g' L' h' F' N' l1 X' T' stg kG'
      k_lt l1
      dsimp only
      (try k_unmd); (try k_fold)
      k_steps
      all_goals (rw [hb] at ret; exact retB (Q := Q) (ret _ _ (keepH (by assumption) kG' (by assumption) (by first | exact fun p hp => hp | exact fun p hp => .tail _ hp | exact fun p hp => .tail _ (.tail _ hp)) (fun q hq => (hh9 q hq).1))) (by first | rfl | decide +kernel))
  | i78 hb t u r e =>
    subst e
    have hr9 : r.length ≤ 1000 := by simp at hz; omega
    have hh9 := hide1 ha ha0
    refine' enter [(a, tupO (.int 7 t :: .int 8 u :: r) n)] X T st hh9 ?k6 ?k7 ?k8 ?k9 ?kB ?h ?c2 ?c3 ?c4 ?c5
    case k6 => k_is
    case k7 => k_is
    case k8 => show dp < _; omega
    case k9 => exact BindsTo.of_eq rfl
    case kB => exact locs rfl
    case c2 => exact rfl
    case c3 => exact rfl
    case c4 => exact rfl
    case c5 => decide
    case h =>
      intro g' L' h' F' N' l1 X' T' stg kG'
      k_lt l1
      dsimp only
      (try k_unmd); (try k_fold)
      k_steps
      all_goals (rw [hb] at ret; exact retB (Q := Q) (ret _ _ (keepH (by assumption) kG' (by assumption) (by first | exact fun p hp => hp | exact fun p hp => .tail _ hp | exact fun p hp => .tail _ (.tail _ hp)) (fun q hq => (hh9 q hq).1))) (by first | rfl | decide +kernel))
  | km hb t u r e =>
    subst e
    have hr9 : r.length ≤ 1000 := by simp at hz; omega
    have hh9 := hide1 ha ha0
    refine' enter [(a, tupO (.str (Str.ofString "k") t :: .str (Str.ofString "m") u :: r) n)] X T st hh9 ?k6 ?k7 ?k8 ?k9 ?kB ?h ?c2 ?c3 ?c4 ?c5
    case k6 => k_is
    case k7 => k_is
    case k8 => show dp < _; omega
    case k9 => exact BindsTo.of_eq rfl
    case kB => exact locs rfl
    case c2 => exact rfl
    case c3 => exact rfl
    case c4 => exact rfl
    case c5 => decide
    case h =>
      intro g' L' h' F' N' l1 X' T' stg kG'
      k_lt l1
      dsimp only
      (try k_unmd); (try k_fold)
      k_steps
      all_goals (rw [hb] at ret; exact retB (Q := Q) (ret _ _ (keepH (by assumption) kG' (by assumption) (by first | exact fun p hp => hp | exact fun p hp => .tail _ hp | exact fun p hp => .tail _ (.tail _ hp)) (fun q hq => (hh9 q hq).1))) (by first | rfl | decide +kernel))
end Mine
end F4

section F5
open PySem PySem.W PyProof.Rows PySem.Spec PySem.Calls
set_option maxHeartbeats 2000000
namespace Mine
theorem topOffF5 : True := by
  w_top off
  trivial
local macro_rules | `(tactic| walk_at "call ref") => `(tactic| (k_here; (with_reducible show wpAny _ _ (call (Value.ref 73) _) _ _ _); (refine' take_use ?kx ?kt ?k1 ?k2 ?k3 ?k4 (by assumption) (by assumption) ?k5 ?k6 ?_; (case k1 => k_asm); (case k2 => k_asm); (case kx => k_asm); (case kt => k_asm); (case k3 => ((try dsimp only [Ar]); omega)); (case k4 => (intro o9; k_upd)); (case k5 => decide); (case k6 => decide)); intro r9 t9 x9 tx9 y9 ty9 n9 h9 tk9 F9 N9 hy9 hy9' hr9 hr9'))
theorem one_ok {w : World} {mean : ExcName → Option Value} {mg mb : Str → Option Value} {hR : Heap} {dp un : Nat} {fr : Option (List Env)} {gd : Option (List Code)} {s : Shared} {Q E : Value → Shared → Prop}
    {l lt : Addr} {x y : Int} {tx ty : Tok} {n m : Nat} {v0 v1 v2 v3 v4 v5 v6 : Value}
    (X : (hd.heap_39 w.params).In hR) (T : Top hd.view_39 (looseW hd.view_39 [Str.ofString "ChanError"]) mean mg mb hR) (st : hR.StaysIn s.heap) (hd : dp + 20 < recursionLimit)
    (hl : s.heap.get? l = some (listOf #[.int x tx, .int y ty] n)) (hl0 : hR.get? l = none) (hy0 : 0 ≤ y) (hy1 : y < 2147483647)
    (ht : s.heap.get? lt = some (listOf #[v0, v1, v2, v3, v4, v5, v6] m)) (ht0 : hR.get? lt = none) (hne : l ≠ lt)
    (ret : ∀ v x' tx' y' ty' n' h' tk', Keep1 l s.heap h' → h'.get? l = some (listOf #[.int x' tx', .int y' ty'] n') → 0 ≤ y' → y' < 2147483647 → v ∈ [v0, v1, v2, v3, v4, v5, v6] → Q v { s with heap := h', toks := tk' }) :
    wpAny (model PySem.Challenge.rw_pq0225_01.row.prog w) (Ar dp un fr gd) (call (.ref 80) [.ref l, .ref lt]) Q E s := by
  revert X; k_fill; intro X
  refine' enter [(l, listOf #[.int x tx, .int y ty] n), (lt, listOf #[v0, v1, v2, v3, v4, v5, v6] m)] X T st (hide2 hl hl0 ht ht0) ?k6 ?k7 ?k8 ?k9 ?kB ?h ?c2 ?c3 ?c4 ?c5
  case k6 => k_is
  case k7 => k_is
  case k8 => show dp < _; omega
  case k9 => exact BindsTo.of_eq rfl
  case kB => exact locs rfl
  case c2 => exact rfl
  case c3 => exact rfl
  case c4 => exact rfl
  case c5 => decide
  case h =>
    intro g' L' h' F' N' l1 X' T' stg kG'
    k_lt l1
    have hne' : @LT.lt Nat _ l lt ∨ @LT.lt Nat _ lt l := Nat.lt_or_gt_of_ne hne
    dsimp only
    (try k_unmd); (try k_fold)
    k_steps
    all_goals refine ret _ _ _ _ _ _ _ _ (keepH1 (by assumption) kG' (by assumption) (fun p hp => .tail _ hp) (fun q hq => by rw [List.mem_singleton.mp hq]; exact ht)) (at1 (by assumption)) (by assumption) (by assumption) (by simp)
/-- one, in a walk -/
theorem one_use {w : World} {mean : ExcName → Option Value} {mg mb : Str → Option Value} {g : Heap} {dp un : Nat} {fr : Option (List Env)} {gd : Option (List Code)} {s : Shared} {Q E : Value → Shared → Prop} {L : Addr} {m : Str → Option Value} {news : List (Addr × Obj)} {nf : Obj → List (Addr × Obj)}
    {l lt : Addr} {x y : Int} {tx ty : Tok} {n k : Nat} {v0 v1 v2 v3 v4 v5 v6 : Value}
    (X : (hd.heap_39 w.params).In g) (T : Top hd.view_39 (looseW hd.view_39 [Str.ofString "ChanError"]) mean mg mb g) (F : Fr g L s.heap m) (N : News g L s.heap news) (hd : dp + 20 < recursionLimit)
    (U : ∀ o', Upd l (listOf #[.int x tx, .int y ty] n) o' news (nf o')) (hy0 : 0 ≤ y) (hy1 : y < 2147483647)
    (hlt : (lt, listOf #[v0, v1, v2, v3, v4, v5, v6] k) ∈ news) (hne : l ≠ lt)
    (ret : ∀ v x' tx' y' ty' n' h' tk', v ∈ [v0, v1, v2, v3, v4, v5, v6] → Fr g L h' m → News g L h' (nf (listOf #[.int x' tx', .int y' ty'] n')) → 0 ≤ y' → y' < 2147483647 → Q v { s with heap := h', toks := tk' }) :
    wpAny (model PySem.Challenge.rw_pq0225_01.row.prog w) (Ar dp un fr gd) (call (.ref 80) [.ref l, .ref lt]) Q E s := by
  have z := N _ (upd_mem (U (listOf #[.int x tx, .int y ty] n)))
  have zt := N _ hlt
  refine one_ok X T (fun b o e => F.keep b o e) hd z.1 z.2.2 hy0 hy1 zt.1 zt.2.2 hne ?_
  intro v x' tx' y' ty' n' h' tk' k hl' h1 h2 h3
  exact ret v x' tx' y' ty' n' h' tk' h3 (fr_keep1 F k z.2.1 z.2.2) (news_keep1 N (U _) k hl') h1 h2
end Mine
end F5

section F6
open PySem PySem.W PyProof.Rows PySem.Spec PySem.Calls
set_option maxHeartbeats 2000000
namespace Mine
theorem topOffF6 : True := by
  w_top off
  trivial
local macro_rules | `(tactic| walk_at "call ref") => `(tactic| (k_here; (with_reducible show wpAny _ _ (call (Value.ref 73) _) _ _ _); (refine' take_use ?kx ?kt ?k1 ?k2 ?k3 ?k4 ?k7 ?k8 ?k5 ?k6 ?_; (case k1 => k_asm); (case k2 => k_asm); (case kx => k_asm); (case kt => k_asm); (case k3 => ((try dsimp only [Ar]); omega)); (case k4 => (intro o9; k_upd)); (case k7 => assumption); (case k8 => assumption); (case k5 => decide); (case k6 => decide)); intro r9 t9 x9 tx9 y9 ty9 n9 h9 tk9 F9 N9 hy9 hy9' hr9 hr9'))
local macro_rules | `(tactic| walk_at "call ref") => `(tactic| (k_here; (with_reducible show wpAny _ _ (call (Value.ref 80) _) _ _ _); (refine' one_use ?kx ?kt ?k1 ?k2 ?k3 ?k4 ?k7 ?k8 ?k5 ?k6 ?_; (case k1 => k_asm); (case k2 => k_asm); (case kx => k_asm); (case kt => k_asm); (case k3 => ((try dsimp only [Ar]); omega)); (case k4 => (intro o9; k_upd)); (case k7 => assumption); (case k8 => assumption); (case k5 => k_mem); (case k6 => k_ne)); intro v9 x9 tx9 y9 ty9 n9 h9 tk9 hv9 F9 N9 hy9 hy9'))
theorem begin_ok {w : World} {mean : ExcName → Option Value} {mg mb : Str → Option Value} {hR : Heap} {dp un : Nat} {fr : Option (List Env)} {gd : Option (List Code)} {s : Shared} {Q E : Value → Shared → Prop}
    {l : Addr} {x y : Int} {tx ty : Tok} {n : Nat}
    (X : (hd.heap_39 w.params).In hR) (T : Top hd.view_39 (looseW hd.view_39 [Str.ofString "ChanError"]) mean mg mb hR) (st : hR.StaysIn s.heap) (hd : dp + 30 < recursionLimit)
    (hl : s.heap.get? l = some (listOf #[.int x tx, .int y ty] n)) (hl0 : hR.get? l = none) (hy0 : 0 ≤ y) (hy1 : y < 2147483647)
    (ret : ∀ (b : Bg) a bv nn x' tx' y' ty' n' h' tk', Keep1 l s.heap h' → h'.get? l = some (listOf #[.int x' tx', .int y' ty'] n') → 0 ≤ y' → y' < 2147483647 →
      h'.get? a = some (tupO bv nn) → s.heap.get? a = none → b.vals bv → Q (.ref a) { s with heap := h', toks := tk' }) :
    wpAny (model PySem.Challenge.rw_pq0225_01.row.prog w) (Ar dp un fr gd) (call (.ref 87) [.ref l]) Q E s := by
  revert X; k_fill; intro X
  refine' enter [(l, listOf #[.int x tx, .int y ty] n)] X T st (hide1 hl hl0) ?k6 ?k7 ?k8 ?k9 ?kB ?h ?c2 ?c3 ?c4 ?c5
  case k6 => k_is
  case k7 => k_is
  case k8 => show dp < _; omega
  case k9 => exact BindsTo.of_eq rfl
  case kB => exact locs rfl
  case c2 => exact rfl
  case c3 => exact rfl
  case c4 => exact rfl
  case c5 => decide
  case h =>
    intro g' L' h' F' N' l1 X' T' stg kG'
    k_lt l1
    dsimp only
    (try k_unmd); (try k_fold)
    k_steps
    rename_i hv9 F9 N9 hy9 hy9'
    simp only [List.mem_cons, List.mem_nil_iff, or_false] at hv9
    rcases hv9 with hv9 | hv9 | hv9 | hv9 | hv9 | hv9 | hv9 <;> subst hv9
    · exact ret .e _ _ _ _ _ _ _ _ _ _ (keepH1 (by assumption) kG' (by assumption) (by simp) (by simp)) (News.get N9 (by k_mem)) hy9 hy9' (News.get N9 (by k_mem)) (freshH kG' N9 (by k_mem) (by k_all)) rfl
    · exact ret (.lvk _) _ _ _ _ _ _ _ _ _ _ (keepH1 (by assumption) kG' (by assumption) (by simp) (by simp)) (News.get N9 (by k_mem)) hy9 hy9' (News.get N9 (by k_mem)) (freshH kG' N9 (by k_mem) (by k_all)) ⟨_, _, rfl⟩
    · exact ret (.lvk _) _ _ _ _ _ _ _ _ _ _ (keepH1 (by assumption) kG' (by assumption) (by simp) (by simp)) (News.get N9 (by k_mem)) hy9 hy9' (News.get N9 (by k_mem)) (freshH kG' N9 (by k_mem) (by k_all)) ⟨_, _, rfl⟩
    · exact ret .k1 _ _ _ _ _ _ _ _ _ _ (keepH1 (by assumption) kG' (by assumption) (by simp) (by simp)) (News.get N9 (by k_mem)) hy9 hy9' (News.get N9 (by k_mem)) (freshH kG' N9 (by k_mem) (by k_all)) ⟨_, rfl⟩
    · exact ret .n3 _ _ _ _ _ _ _ _ _ _ (keepH1 (by assumption) kG' (by assumption) (by simp) (by simp)) (News.get N9 (by k_mem)) hy9 hy9' (News.get N9 (by k_mem)) (freshH kG' N9 (by k_mem) (by k_all)) ⟨_, rfl⟩
    · exact ret .i78 _ _ _ _ _ _ _ _ _ _ (keepH1 (by assumption) kG' (by assumption) (by simp) (by simp)) (News.get N9 (by k_mem)) hy9 hy9' (News.get N9 (by k_mem)) (freshH kG' N9 (by k_mem) (by k_all)) ⟨_, _, rfl⟩
    · exact ret .km _ _ _ _ _ _ _ _ _ _ (keepH1 (by assumption) kG' (by assumption) (by simp) (by simp)) (News.get N9 (by k_mem)) hy9 hy9' (News.get N9 (by k_mem)) (freshH kG' N9 (by k_mem) (by k_all)) ⟨_, _, rfl⟩
/-- begin, in a walk -/
theorem begin_use {w : World} {mean : ExcName → Option Value} {mg mb : Str → Option Value} {g : Heap} {dp un : Nat} {fr : Option (List Env)} {gd : Option (List Code)} {s : Shared} {Q E : Value → Shared → Prop} {L : Addr} {m : Str → Option Value} {news : List (Addr × Obj)} {nf : Obj → List (Addr × Obj)}
    {l : Addr} {x y : Int} {tx ty : Tok} {n : Nat}
    (X : (hd.heap_39 w.params).In g) (T : Top hd.view_39 (looseW hd.view_39 [Str.ofString "ChanError"]) mean mg mb g) (F : Fr g L s.heap m) (N : News g L s.heap news) (hd : dp + 30 < recursionLimit)
    (U : ∀ o', Upd l (listOf #[.int x tx, .int y ty] n) o' news (nf o')) (hy0 : 0 ≤ y) (hy1 : y < 2147483647)
    (ret : ∀ (b : Bg) a bv nn x' tx' y' ty' n' h' tk', b.vals bv → Fr g L h' m → News g L h' ((a, tupO bv nn) :: nf (listOf #[.int x' tx', .int y' ty'] n')) → 0 ≤ y' → y' < 2147483647 → Q (.ref a) { s with heap := h', toks := tk' }) :
    wpAny (model PySem.Challenge.rw_pq0225_01.row.prog w) (Ar dp un fr gd) (call (.ref 87) [.ref l]) Q E s := by
  have z := N _ (upd_mem (U (listOf #[.int x tx, .int y ty] n)))
  refine begin_ok X T (fun b o e => F.keep b o e) hd z.1 z.2.2 hy0 hy1 ?_
  intro b a bv nn x' tx' y' ty' n' h' tk' k hl' h1 h2 ha ha0 hb
  refine ret b a bv nn x' tx' y' ty' n' h' tk' hb (fr_keep1 F k z.2.1 z.2.2) ?_ h1 h2
  intro p hp
  rcases List.mem_cons.mp hp with rfl | hp
  · refine ⟨ha, fun q => ?_, ?_⟩
    · obtain ⟨oL, _, _, hoL, _⟩ := F.ns
      simp only at q
      rw [q, hoL] at ha0; cases ha0
    · cases q : g.get? a with
      | none => rfl
      | some o => have := F.keep _ _ q; rw [this] at ha0; cases ha0
  · exact news_keep1 N (U _) k hl' p hp
end Mine
end F6

section F7
open PySem PySem.W PyProof.Rows PySem.Spec PySem.Calls
set_option maxHeartbeats 2000000
namespace Mine
theorem topOffF7 : True := by
  w_top off
  trivial
local macro_rules | `(tactic| walk_at "call ref") => `(tactic| (k_here; (with_reducible show wpAny _ _ (call (Value.ref 73) _) _ _ _); (refine' take_use ?kx ?kt ?k1 ?k2 ?k3 ?k4 ?k7 ?k8 ?k5 ?k6 ?_; (case k1 => k_asm); (case k2 => k_asm); (case kx => k_asm); (case kt => k_asm); (case k3 => ((try dsimp only [Ar]); omega)); (case k4 => (intro o9; k_upd)); (case k7 => assumption); (case k8 => assumption); (case k5 => decide); (case k6 => decide)); intro r9 t9 x9 tx9 y9 ty9 n9 h9 tk9 F9 N9 hy9 hy9' hr9 hr9'))
local macro_rules | `(tactic| walk_at "call ref") => `(tactic| (k_here; (with_reducible show wpAny _ _ (call (Value.ref 87) _) _ _ _); (refine' begin_use ?kx ?kt ?k1 ?k2 ?k3 ?k4 ?k7 ?k8 ?_; (case k1 => k_asm); (case k2 => k_asm); (case kx => k_asm); (case kt => k_asm); (case k3 => ((try dsimp only [Ar]); omega)); (case k4 => (intro o9; k_upd)); (case k7 => assumption); (case k8 => assumption)); intro b9 a9 bv9 nn9 x9 tx9 y9 ty9 n9 h9 tk9 hb9 F9 N9 hy9 hy9'))
local macro_rules | `(tactic| k_all) => `(tactic| assumption)
local macro_rules | `(tactic| walk_at "eval ListComp") => `(tactic| (k_here; (refine' comp_inv (cl := ?cl) ?hclos ?hcell ?hkind ?hnames ?hx ?_ ?hs); (case hclos => with_unfolding_all rfl); (case hcell => decide); (case hkind => with_unfolding_all rfl); (case hnames => decide); (case hx => with_unfolding_all rfl); (case hs => intro _; with_unfolding_all rfl)))
local macro_rules | `(tactic| walk_at "compareOp NotEq ref ref") => `(tactic| (k_here; (refine' ne_uneq ?k1 ?k2 ?k3 ?k4 ?_; (case k1 => k_asm); (case k2 => k_mem); (case k3 => k_mem); (case k4 => exact hun0 (by omega)))))
local macro_rules | `(tactic| walk_at "compareOp NotEq ref ref") => `(tactic| (k_here; (refine' ne_nil ?k1 ?k2 ?k3 ?k4 ?_; (case k1 => k_asm); (case k2 => k_mem); (case k3 => k_mem); (case k4 => exact hun0 (by omega)))))
local macro_rules | `(tactic| walk_at "binaryOp Add ref ref") => `(tactic| (k_here; (refine' add_one ?k1 ?k2 ?k3 ?k4 ?k5 ?k6 ?_; (case k1 => k_asm); (case k2 => k_asm); (case k3 => k_mem); (case k4 => k_mem); (case k5 => assumption); (case k6 => exact Nat.le_of_ble_eq_true rfl)); intro a9 h9 n9 F9 N9 hg9 hf9 hz9))
def TreeSpec (w : World) (mean : ExcName → Option Value) (mg mb : Str → Option Value) (d : Nat) : Prop :=
  ∀ (hR : Heap) (dp un : Nat) (fr : Option (List Env)) (gd : Option (List Code)) (s : Shared) (Q E : Value → Shared → Prop) (l : Addr) (x y : Int) (tx ty : Tok) (n : Nat) (i : Int) (tt : Tok),
    (hd.heap_39 w.params).In hR → Top hd.view_39 (looseW hd.view_39 [Str.ofString "ChanError"]) mean mg mb hR →
    i = (d : Int) → hR.StaysIn s.heap → dp + 50 + 10 * d < recursionLimit → un + 200 + 20 * d < cLine → s.heap.get? l = some (listOf #[.int x tx, .int y ty] n) → hR.get? l = none → 0 ≤ y → y < 2147483647 →
    (∀ t v x' tx' y' ty' n' h' tk', Keep1 l s.heap h' → h'.get? l = some (listOf #[.int x' tx', .int y' ty'] n') → 0 ≤ y' → y' < 2147483647 → At hR h' t v → t.depth ≤ d + 1 → t.size ≤ tsz d → Q v { s with heap := h', toks := tk' }) →
    wpAny (model PySem.Challenge.rw_pq0225_01.row.prog w) (Ar dp un fr gd) (call (.ref 92) [.ref l, .int i tt]) Q E s
theorem tree_step {w : World} {mean : ExcName → Option Value} {mg mb : Str → Option Value} (d : Nat) (IH : TreeSpec w mean mg mb d) : TreeSpec w mean mg mb (d + 1) := by
  intro hR dp un fr gd s Q E l x y tx ty n i tt X T hi st hd hu hl hl0 hy0 hy1 ret
  revert X; k_fill; intro X
  refine' enterC [(l, listOf #[.int x tx, .int y ty] n)] X T st (hide1 hl hl0) ?k6 ?k7 ?k8 ?k9 ?kB ?kD ?h ?c2 ?c3 ?c4
  case k6 => k_is
  case k7 => k_is
  case k8 => show dp < _; omega
  case k9 => exact BindsTo.of_eq rfl
  case kB => exact rfl
  case kD => decide +kernel
  case c2 => exact rfl
  case c3 => exact rfl
  case c4 => exact rfl
  case h =>
    intro g' L' h' tk' cells' F' N' Y' l1 X' T' stg kG'
    k_lt l1
    k_cells Y'
    (try simp only [List.cons_append, List.nil_append] at N')
    (try dsimp only)
    (try k_unmd); (try k_fold)
    k_steps
    rename IsRange _ _ _ _ _ _ _ _ => hRng
    rename Fr _ _ _ _ => F2
    rename News _ _ _ _ => N2
    have hlN := N2 _ (List.Mem.tail _ (List.Mem.tail _ (List.Mem.head _)))
    refine' range_comp (l := l) (fun i ys h => ∃ x' y' tx' ty' n', h.get? l = some (listOf #[.int x' tx', .int y' ty'] n') ∧ 0 ≤ y' ∧ y' < 2147483647 ∧ ∃ ts : Ts, AtL g' h ts ys ∧ ts.depth ≤ d + 1 ∧ ts.size ≤ ys.length * tsz d)
      ?ga ?gr ?g1 ?g2 ?g0 ?gj ?gJ ?gt ?gd
    case ga => rfl
    case gr => exact hRng
    case g0 => exact hlN.1
    case gj => exact ⟨_, _, _, _, _, hlN.1, by assumption, by assumption, .nil, rfl, Nat.zero_le _, Nat.zero_le _⟩
    case g1 => assumption
    case g2 => assumption
    case gJ =>
      rintro i ys h h' ⟨x', y', tx', ty', n', e, e1, e2, ts, e3, e4⟩ hk ht
      exact ⟨x', y', tx', ty', n', hk _ e, e1, e2, ts, AtL.mono ht e3, e4⟩
    case gt =>
      intro C i h₃ tk₃ m₃ ys E' hC hi3 hn hj hys hk
      obtain ⟨x', y', tx', ty', n', e, e1, e2, ts, e3, e4, e5⟩ := hj
      have F3 : Fr g' C h₃ m₃ := ⟨hn, fun b o eb => hk b o (fun q => by rw [q, hlN.2.2] at eb; cases eb) (F2.keep b o eb), Nat.le_trans F2.above (Nat.le_trans (Nat.le_of_lt F2.ns.lt) hC)⟩
      have N3 : News g' C h₃ ((L' + 1 + 1, _) :: (L' + 1, _) :: [(l, listOf #[.int x' tx', .int y' ty'] n')]) := news_comp N2 hC hk e (Nat.ne_of_gt (Nat.lt_succ_of_lt (Nat.lt_succ_of_lt l1))) (Nat.ne_of_gt (Nat.lt_succ_of_lt l1))
      clear F2 N2 hRng
      clear F' N'
      k_steps
      refine IH g' _ _ _ _ _ _ _ l x' y' tx' ty' n' _ _ X' T' ?b1 (fun b o eb => F3.keep b o eb) ?b2 ?b3 e hlN.2.2 e1 e2 ?b4
      case b1 => subst hi; simp
      case b2 => show dp + 1 + 50 + 10 * d < _; omega
      case b3 => show un + 3 + 200 + 20 * d < _; omega
      case b4 =>
        intro t v x2 tx2 y2 ty2 n2 h2 tk2 hk2 hl2 hy2 hy2' hAt hdp hszt
        refine ⟨⟨h2, tk2, rfl, fun b o hb eb => hk2 b o (by simpa using hb) eb⟩, x2, y2, tx2, ty2, n2, hl2, hy2, hy2', ts.snoc t, AtL.snoc hAt (AtL.mono (KeepT.of_keep1 hk2 e) e3), ?_, ?_⟩
        · rw [Ts.depth_snoc]; omega
        · rw [Ts.size_snoc, List.length_append, List.length_singleton, Nat.add_mul, Nat.one_mul]; omega
    case gd =>
      intro D h₄ tk₄ ys hD hpl hys hj hk
      obtain ⟨x', y', tx', ty', n', e, e1, e2, ts, e3, e4, e5⟩ := hj
      obtain ⟨ln, hpl⟩ := hpl
      have c1 := N2 _ (List.Mem.head _)
      have c2 := N2 _ (List.Mem.tail _ (List.Mem.head _))
      have hLl : L' ≠ l := Ne.symm hlN.2.1
      have F4 := fr_keep1 F2 hk hlN.2.1 hlN.2.2
      have hDl : @Ne Nat D l := fun q => by rw [q] at hD; have := hD.symm.trans hlN.1; cases this
      have hDc1 : @Ne Nat D (L' + 1 + 1) := fun q => by rw [q] at hD; have := hD.symm.trans c1.1; cases this
      have hDc2 : @Ne Nat D (L' + 1) := fun q => by rw [q] at hD; have := hD.symm.trans c2.1; cases this
      have N4 := news_tups F4 (news_list N2 F4 hk e hpl hD (Nat.ne_of_gt (Nat.lt_succ_of_lt (Nat.lt_succ_of_lt l1))) (Nat.ne_of_gt (Nat.lt_succ_of_lt l1)) F2)
      have t1 := newTups_ne (g := g') hpl (by show Value.type "list" ≠ Value.type "tuple"; decide)
      have t2 := newTups_ne (g := g') e (by show Value.type "list" ≠ Value.type "tuple"; decide)
      simp only [List.cons_append, List.nil_append] at N4
      generalize htr : newTups g' h₄ = tr at N4 t1 t2
      clear hRng
      obtain ⟨yl⟩ := ys
      have hyl : yl.length ≤ 3 := by simp at hys; omega
      clear F' N' F2 N2
      have hts1 : ts.size ≤ yl.length * tsz d := e5
      have hy0 : yl.length ≤ 3 := hyl
      have hz1 : yl.length * tsz d ≤ 3 * tsz d := Nat.mul_le_mul_right _ hyl
      clear hys e5
      rcases yl with _ | ⟨v1, _ | ⟨v2, _ | ⟨v3, _ | ⟨v4, r⟩⟩⟩⟩
      case cons.cons.cons.cons => simp at hyl
      case nil =>
        k_steps
        refine ret (.mk _ ts) _ _ _ _ _ _ _ _ (keepH1 (by assumption) kG' (by assumption) (by simp) (by simp)) (News.get (by assumption) (by k_mem)) (by assumption) (by assumption) (at_end stg htr e3 (by assumption) (fun p hp => by repeat (first | exact hp | apply List.Mem.tail)) (by assumption) (by assumption) (by assumption) (by assumption)) ?_ ?_
        · simp only [Mine.T.depth]; omega
        · simp only [Mine.T.size, tsz]; omega
      case cons.nil =>
        obtain ⟨t0, hp0, hp1, q0⟩ : ∃ t0 : Mine.T, t0.depth ≤ ts.depth ∧ t0.size ≤ ts.size ∧ At g' h₄ t0 v1 := by
          cases ts with
          | nil => cases e3
          | cons t0 ts0 =>
            obtain ⟨u, r, eu, h1, h2⟩ := e3
            cases eu
            exact ⟨t0, by simp only [Ts.depth]; omega, by simp only [Ts.size]; omega, h1⟩
        k_steps
        · refine ret (.mk _ (ts.snoc t0)) _ _ _ _ _ _ _ _ (keepH1 (by assumption) kG' (by assumption) (by simp) (by simp)) (News.get (by assumption) (by k_mem)) (by assumption) (by assumption) (at_end stg htr (AtL.snoc q0 e3) (by assumption) (fun p hp => by repeat (first | exact hp | apply List.Mem.tail)) (by assumption) (by assumption) (by assumption) (by assumption)) ?_ ?_
          · simp only [Mine.T.depth, Ts.depth_snoc]; omega
          · simp only [Mine.T.size, Ts.size_snoc, tsz]; omega
        · refine ret (.mk _ ts) _ _ _ _ _ _ _ _ (keepH1 (by assumption) kG' (by assumption) (by simp) (by simp)) (News.get (by assumption) (by k_mem)) (by assumption) (by assumption) (at_end stg htr e3 (by assumption) (fun p hp => by repeat (first | exact hp | apply List.Mem.tail)) (by assumption) (by assumption) (by assumption) (by assumption)) ?_ ?_
          · simp only [Mine.T.depth]; omega
          · simp only [Mine.T.size, tsz]; omega
      case cons.cons.nil =>
        obtain ⟨t0, hp0, hp1, q0⟩ : ∃ t0 : Mine.T, t0.depth ≤ ts.depth ∧ t0.size ≤ ts.size ∧ At g' h₄ t0 v1 := by
          cases ts with
          | nil => cases e3
          | cons t0 ts0 =>
            obtain ⟨u, r, eu, h1, h2⟩ := e3
            cases eu
            exact ⟨t0, by simp only [Ts.depth]; omega, by simp only [Ts.size]; omega, h1⟩
        k_steps
        · refine ret (.mk _ (ts.snoc t0)) _ _ _ _ _ _ _ _ (keepH1 (by assumption) kG' (by assumption) (by simp) (by simp)) (News.get (by assumption) (by k_mem)) (by assumption) (by assumption) (at_end stg htr (AtL.snoc q0 e3) (by assumption) (fun p hp => by repeat (first | exact hp | apply List.Mem.tail)) (by assumption) (by assumption) (by assumption) (by assumption)) ?_ ?_
          · simp only [Mine.T.depth, Ts.depth_snoc]; omega
          · simp only [Mine.T.size, Ts.size_snoc, tsz]; omega
        · refine ret (.mk _ ts) _ _ _ _ _ _ _ _ (keepH1 (by assumption) kG' (by assumption) (by simp) (by simp)) (News.get (by assumption) (by k_mem)) (by assumption) (by assumption) (at_end stg htr e3 (by assumption) (fun p hp => by repeat (first | exact hp | apply List.Mem.tail)) (by assumption) (by assumption) (by assumption) (by assumption)) ?_ ?_
          · simp only [Mine.T.depth]; omega
          · simp only [Mine.T.size, tsz]; omega
      case cons.cons.cons.nil =>
        obtain ⟨t0, hp0, hp1, q0⟩ : ∃ t0 : Mine.T, t0.depth ≤ ts.depth ∧ t0.size ≤ ts.size ∧ At g' h₄ t0 v1 := by
          cases ts with
          | nil => cases e3
          | cons t0 ts0 =>
            obtain ⟨u, r, eu, h1, h2⟩ := e3
            cases eu
            exact ⟨t0, by simp only [Ts.depth]; omega, by simp only [Ts.size]; omega, h1⟩
        k_steps
        · refine ret (.mk _ (ts.snoc t0)) _ _ _ _ _ _ _ _ (keepH1 (by assumption) kG' (by assumption) (by simp) (by simp)) (News.get (by assumption) (by k_mem)) (by assumption) (by assumption) (at_end stg htr (AtL.snoc q0 e3) (by assumption) (fun p hp => by repeat (first | exact hp | apply List.Mem.tail)) (by assumption) (by assumption) (by assumption) (by assumption)) ?_ ?_
          · simp only [Mine.T.depth, Ts.depth_snoc]; omega
          · simp only [Mine.T.size, Ts.size_snoc, tsz]; omega
        · refine ret (.mk _ ts) _ _ _ _ _ _ _ _ (keepH1 (by assumption) kG' (by assumption) (by simp) (by simp)) (News.get (by assumption) (by k_mem)) (by assumption) (by assumption) (at_end stg htr e3 (by assumption) (fun p hp => by repeat (first | exact hp | apply List.Mem.tail)) (by assumption) (by assumption) (by assumption) (by assumption)) ?_ ?_
          · simp only [Mine.T.depth]; omega
          · simp only [Mine.T.size, tsz]; omega
end Mine
end F7

section F8
open PySem PySem.W PyProof.Rows PySem.Spec PySem.Calls
set_option maxHeartbeats 2000000
namespace Mine
local macro_rules | `(tactic| walk_at "no such step") => `(tactic| fail)
theorem topOffF8 : True := by
  w_top off
  trivial
local macro_rules | `(tactic| walk_at "call ref") => `(tactic| (k_here; (with_reducible show wpAny _ _ (call (Value.ref 73) _) _ _ _); (refine' take_use ?kx ?kt ?k1 ?k2 ?k3 ?k4 ?k7 ?k8 ?k5 ?k6 ?_; (case k1 => k_asm); (case k2 => k_asm); (case kx => k_asm); (case kt => k_asm); (case k3 => ((try dsimp only [Ar]); omega)); (case k4 => (intro o9; k_upd)); (case k7 => assumption); (case k8 => assumption); (case k5 => decide); (case k6 => decide)); intro r9 t9 x9 tx9 y9 ty9 n9 h9 tk9 F9 N9 hy9 hy9' hr9 hr9'))
local macro_rules | `(tactic| walk_at "call ref") => `(tactic| (k_here; (with_reducible show wpAny _ _ (call (Value.ref 87) _) _ _ _); (refine' begin_use ?kx ?kt ?k1 ?k2 ?k3 ?k4 ?k7 ?k8 ?_; (case k1 => k_asm); (case k2 => k_asm); (case kx => k_asm); (case kt => k_asm); (case k3 => ((try dsimp only [Ar]); omega)); (case k4 => (intro o9; k_upd)); (case k7 => assumption); (case k8 => assumption)); intro b9 a9 bv9 nn9 x9 tx9 y9 ty9 n9 h9 tk9 hb9 F9 N9 hy9 hy9'))
local macro_rules | `(tactic| k_all) => `(tactic| assumption)
local macro_rules | `(tactic| walk_at "eval ListComp") => `(tactic| (k_here; (refine' comp_inv (cl := ?cl) ?hclos ?hcell ?hkind ?hnames ?hx ?_ ?hs); (case hclos => with_unfolding_all rfl); (case hcell => decide); (case hkind => with_unfolding_all rfl); (case hnames => decide); (case hx => with_unfolding_all rfl); (case hs => intro _; with_unfolding_all rfl)))
local macro_rules | `(tactic| walk_at "compareOp NotEq ref ref") => `(tactic| (k_here; (refine' ne_uneq ?k1 ?k2 ?k3 ?k4 ?_; (case k1 => k_asm); (case k2 => k_mem); (case k3 => k_mem); (case k4 => exact hun0 (by omega)))))
local macro_rules | `(tactic| walk_at "compareOp NotEq ref ref") => `(tactic| (k_here; (refine' ne_nil ?k1 ?k2 ?k3 ?k4 ?_; (case k1 => k_asm); (case k2 => k_mem); (case k3 => k_mem); (case k4 => exact hun0 (by omega)))))
local macro_rules | `(tactic| walk_at "binaryOp Add ref ref") => `(tactic| (k_here; (refine' add_one ?k1 ?k2 ?k3 ?k4 ?k5 ?k6 ?_; (case k1 => k_asm); (case k2 => k_asm); (case k3 => k_mem); (case k4 => k_mem); (case k5 => assumption); (case k6 => exact Nat.le_of_ble_eq_true rfl)); intro a9 h9 n9 F9 N9 hg9 hf9 hz9))
theorem tree_zero {w : World} {mean : ExcName → Option Value} {mg mb : Str → Option Value} : TreeSpec w mean mg mb 0 := by
  intro hR dp un fr gd s Q E l x y tx ty n i tt X T hi st hd hu hl hl0 hy0 hy1 ret
  revert X; k_fill; intro X
  refine' enterC [(l, listOf #[.int x tx, .int y ty] n)] X T st (hide1 hl hl0) ?k6 ?k7 ?k8 ?k9 ?kB ?kD ?h ?c2 ?c3 ?c4
  case k6 => k_is
  case k7 => k_is
  case k8 => show dp < _; omega
  case k9 => exact BindsTo.of_eq rfl
  case kB => exact rfl
  case kD => decide +kernel
  case c2 => exact rfl
  case c3 => exact rfl
  case c4 => exact rfl
  case h =>
    intro g' L' h' tk' cells' F' N' Y' l1 X' T' stg kG'
    k_lt l1
    k_cells Y'
    (try simp only [List.cons_append, List.nil_append] at N')
    (try dsimp only)
    (try k_unmd); (try k_fold)
    subst hi
    k_steps
    refine ret (.mk _ .nil) _ _ _ _ _ _ _ _ (keepH1 (by assumption) kG' (by assumption) (by simp) (by simp)) (News.get (by assumption) (by k_mem)) (by assumption) (by assumption) (at_end (h₄ := g') stg rfl rfl (by assumption) (fun p hp => by
      obtain ⟨h1, h2, _⟩ := mem_newTups.mp hp
      rw [h1] at h2; cases h2) (by assumption) (by assumption) (by assumption) (by assumption)) ?_ ?_
    · simp [Mine.T.depth, Ts.depth]
    · simp [Mine.T.size, Ts.size, tsz]
theorem tree_ok {w : World} {mean : ExcName → Option Value} {mg mb : Str → Option Value} : ∀ d, TreeSpec w mean mg mb d
  | 0 => tree_zero
  | d + 1 => tree_step d (tree_ok d)
end Mine
end F8

section F9
open PySem PySem.W PyProof.Rows PySem.Spec PySem.Calls
set_option maxHeartbeats 2000000
namespace Mine
theorem topOffF9 : True := by
  w_top off
  trivial
local macro_rules | `(tactic| walk_at "call ref") => `(tactic| (k_here; (with_reducible show wpAny _ _ (call (Value.ref 73) _) _ _ _); (refine' take_use ?kx ?kt ?k1 ?k2 ?k3 ?k4 ?k7 ?k8 ?k5 ?k6 ?_; (case k1 => k_asm); (case k2 => k_asm); (case kx => k_asm); (case kt => k_asm); (case k3 => ((try dsimp only [Ar]); omega)); (case k4 => (intro o9; k_upd)); (case k7 => assumption); (case k8 => assumption); (case k5 => decide); (case k6 => decide)); intro r9 t9 x9 tx9 y9 ty9 n9 h9 tk9 F9 N9 hy9 hy9' hr9 hr9'))
local macro_rules | `(tactic| k_all) => `(tactic| assumption)
theorem gsub_at {hS g : Heap} {l : Addr} {its : Array Value} {n : Nat} (hl : hS.get? l = some (listOf its n)) (G : GSub hS g ([(l, listOf its n)].map (·.1))) : KeepT hS g := fun b vs m e => G b _ e (by
  intro z
  rw [List.map_cons, List.map_nil, List.mem_singleton] at z
  rw [z, hl] at e
  have e' := congrArg Obj.cls (Option.some.inj e); simp at e')
theorem News.fresh0 {g h : Heap} {L : Addr} {news : List (Addr × Obj)} {p : Addr × Obj} (N : News g L h news) (hp : p ∈ news) : g.get? p.1 = none := (N p hp).2.2
theorem around_ok {w : World} {mean : ExcName → Option Value} {mg mb : Str → Option Value} {hR : Heap} {dp un : Nat} {fr : Option (List Env)} {gd : Option (List Code)} {s : Shared} {Q E : Value → Shared → Prop}
    {l : Addr} {x y : Int} {tx ty : Tok} {n : Nat} {t : Mine.T} {v : Value}
    (X : (hd.heap_39 w.params).In hR) (T : Top hd.view_39 (looseW hd.view_39 [Str.ofString "ChanError"]) mean mg mb hR) (st : hR.StaysIn s.heap) (hd : dp + 30 < recursionLimit)
    (hl : s.heap.get? l = some (listOf #[.int x tx, .int y ty] n)) (hl0 : hR.get? l = none) (hy0 : 0 ≤ y) (hy1 : y < 2147483647) (ht : At hR s.heap t v)
    (ret : ∀ (t' : Mine.T) v' x' tx' y' ty' n' h' tk', Keep1 l s.heap h' → h'.get? l = some (listOf #[.int x' tx', .int y' ty'] n') → 0 ≤ y' → y' < 2147483647 → At hR h' t' v' → t'.depth ≤ t.depth + 1 → t'.size ≤ 1 + 2 * t.size → Q v' { s with heap := h', toks := tk' }) :
    wpAny (model PySem.Challenge.rw_pq0225_01.row.prog w) (Ar dp un fr gd) (call (.ref 99) [.ref l, v]) Q E s := by
  revert X; k_fill; intro X
  obtain ⟨c, hc⟩ : ∃ c, v = .ref c := by
    cases t with
    | mk b ks => obtain ⟨c, _, _, _, e, _⟩ := ht; exact ⟨c, e⟩
  subst hc
  refine' enter [(l, listOf #[.int x tx, .int y ty] n)] X T st (hide1 hl hl0) ?k6 ?k7 ?k8 ?k9 ?kB ?h ?c2 ?c3 ?c4 ?c5
  case k6 => k_is
  case k7 => k_is
  case k8 => show dp < _; omega
  case k9 => exact BindsTo.of_eq rfl
  case kB => exact locs rfl
  case c2 => exact rfl
  case c3 => exact rfl
  case c4 => exact rfl
  case c5 => decide
  case h =>
    intro g' L' h' F' N' l1 X' T' stg kG'
    k_lt l1
    have hg : At hR g' t (.ref c) := At.mono (gsub_at hl kG') ht
    dsimp only
    (try k_unmd); (try k_fold)
    k_steps
    · refine ret (.mk .e (.cons t (.cons t .nil))) _ _ _ _ _ _ _ _ (keepH1 (by assumption) kG' (by assumption) (by simp) (by simp)) (News.get (by assumption) (by k_mem)) (by assumption) (by assumption) ⟨_, [], [.ref c, .ref c], _, rfl, News.get (by assumption) (by k_mem), fresh_of_stays stg (News.fresh0 (by assumption) (by k_mem)), Nat.le_of_ble_eq_true rfl, rfl, ⟨_, _, rfl, At.mono (KeepT.of_keep (fun b o e => Fr.keep (by assumption) b o e)) hg, ⟨_, _, rfl, At.mono (KeepT.of_keep (fun b o e => Fr.keep (by assumption) b o e)) hg, rfl⟩⟩⟩ ?_ ?_
      · simp only [Mine.T.depth, Ts.depth]; omega
      · simp only [Mine.T.size, Ts.size]; omega
    · refine ret (.mk .e (.cons t .nil)) _ _ _ _ _ _ _ _ (keepH1 (by assumption) kG' (by assumption) (by simp) (by simp)) (News.get (by assumption) (by k_mem)) (by assumption) (by assumption) ⟨_, [], [.ref c], _, rfl, News.get (by assumption) (by k_mem), fresh_of_stays stg (News.fresh0 (by assumption) (by k_mem)), Nat.le_of_ble_eq_true rfl, rfl, ⟨_, _, rfl, At.mono (KeepT.of_keep (fun b o e => Fr.keep (by assumption) b o e)) hg, rfl⟩⟩ ?_ ?_
      · simp only [Mine.T.depth, Ts.depth]; omega
      · simp only [Mine.T.size, Ts.size]; omega
    · refine ret (.mk (.lvn _) (.cons t .nil)) _ _ _ _ _ _ _ _ (keepH1 (by assumption) kG' (by assumption) (by simp) (by simp)) (News.get (by assumption) (by k_mem)) (by assumption) (by assumption) ⟨_, [_, _], [.ref c], _, rfl, News.get (by assumption) (by k_mem), fresh_of_stays stg (News.fresh0 (by assumption) (by k_mem)), Nat.le_of_ble_eq_true rfl, ⟨_, _, rfl⟩, ⟨_, _, rfl, At.mono (KeepT.of_keep (fun b o e => Fr.keep (by assumption) b o e)) hg, rfl⟩⟩ ?_ ?_
      · simp only [Mine.T.depth, Ts.depth]; omega
      · simp only [Mine.T.size, Ts.size]; omega
end Mine
end F9

section T2
open PySem PySem.W PyProof.Rows PySem.Spec PySem.Calls
set_option maxHeartbeats 200000
namespace Mine
/-- what a for over a tuple keeps, turn by turn -/
theorem for_tup {prog : Program} {w : World} {A : Around} {E : Value → Shared → Prop} {s : Shared} {env : Env} {h₀ : Heap} {x : Str} {body : List Stmt} {Q : Flow → Shared → Prop}
    {l : Addr} {vs : List Value} {k : Nat} {m₀ : Str → Option Value} {news : List (Addr × Obj)} (J : Nat → (Str → Option Value) → List (Addr × Obj) → Prop)
    (hh : A.handled = none) (hl : h₀.get? l = some (tupO vs k)) (F : Fr h₀ env.locals s.heap m₀) (N : News h₀ env.locals s.heap news) (hj : J 0 m₀ news)
    (turn : ∀ i v m₁ nx h tk own, vs[i]? = some v → TbOff own nx → J i m₁ nx → Fr h₀ env.locals h (fun y => if y = x then some v else m₁ y) → News h₀ env.locals h (nx ++ own) →
      wpAny (model prog w) A (execs body env) (TbPost h₀ env.locals (J (i + 1)) own { s with heap := h, toks := tk } Q) E { s with heap := h, toks := tk })
    (done : ∀ m₁ nx h tk, J vs.length m₁ nx → Fr h₀ env.locals h m₁ → News h₀ env.locals h nx → Q .next { s with heap := h, toks := tk }) :
    wpAny (model prog w) A (pyIter (.ref l)) (fun it s₂ => LoopAtV prog w A h₀ env x body Q E it s₂) E s := by
  have hl0 : h₀.IsTuple l vs.toArray := ⟨_, hl, rfl, k, rfl⟩
  have hls : s.heap.IsTuple l vs.toArray := hl0.at fun o e => F.keep l o e
  have hol := hl
  have hlt : l < h₀.objs.size := Heap.lt_size hol
  have hne : l ≠ s.heap.objs.size := Nat.ne_of_lt (Nat.lt_trans (Nat.lt_of_lt_of_le hlt F.above) F.ns.lt)
  refine wpAny_pyIter_tuple hls ?_
  have W := Walks.tuple (prog := prog) (w := w) hh s.heap.objs.size l hne vs.toArray
  have hlen : vs.toArray.size = vs.length := by simp
  rw [hlen] at W
  refine ⟨_, _, _, vs.length, _, _, m₀, news, J, rfl, W, ?_, ?_, ?_, ⟨⟨_, Heap.get?_push_size _ rfl, rfl, rfl⟩, hls.at fun o e => Heap.get?_push_of_some _ e⟩, F.push _, (fun p hp => ⟨Heap.get?_push_of_some _ (N p hp).1, (N p hp).2⟩), hj, ?_, ?_⟩
  · intro hm
    rcases List.mem_cons.mp hm with e | hm
    · exact absurd F.ns.lt (e ▸ Nat.lt_irrefl _)
    · exact absurd (Nat.lt_of_lt_of_le hlt F.above) ((List.mem_singleton.mp hm) ▸ Nat.lt_irrefl _)
  · intro b hb
    rw [List.mem_singleton.mp hb]
    exact next_is_new F
  · intro p hp hI
    exact absurd (Heap.lt_size (N p hp).1) ((List.mem_singleton.mp hI) ▸ Nat.lt_irrefl _)
  · rintro i v m₁ news₁ s₁ own ⟨hh', tk', rfl⟩ hin hP hJ hoff hown _ hmem hst F₁ N₁
    obtain ⟨⟨oi, hoi, _⟩, _⟩ := hst
    have hI : (s.heap.objs.size, oi) ∈ own := hmem _ (.head _) (next_is_new F) oi hoi
    have hsep : TbOff own news₁ := by
      intro p hp q hq e
      rcases List.mem_cons.mp (hown p hp) with h1 | h1
      · exact hoff q hq (List.mem_singleton.mpr (by rw [← e, h1]))
      · have h2 := List.mem_singleton.mp h1
        have h3 := (N₁ q (List.mem_append.mpr (.inr hq))).2.2
        rw [← e, h2, hol] at h3
        cases h3
    have hv : vs[i]? = some v := by simpa using hP
    have N₂ : News h₀ env.locals hh' (news₁ ++ own) := fun p hp => N₁ p ((List.mem_append.mp hp).elim (fun h => List.mem_append.mpr (.inr h)) fun h => List.mem_append.mpr (.inl h))
    refine wpAny_mono (turn i v m₁ news₁ hh' tk' own hv hsep hJ F₁ N₂) (fun f s₂ p => ?_) fun _ _ e => e
    have fin : TbEnd h₀ env.locals (J (i + 1)) own { s with heap := hh', toks := tk' } s₂ → LoopStepU h₀ env.locals [s.heap.objs.size] own (J (i + 1)) { s with heap := hh', toks := tk' } .next s₂ := by
      rintro ⟨h', tk, m', news', nx, e, F', N', hn, ho, ha, hm⟩
      exact ⟨rfl, h', tk, m', nx, e, F', fun p hp => N' p ((List.mem_append.mp hp).elim (ho p) (hn p)), fun p hp hq => ha _ hI p hp (List.mem_singleton.mp hq).symm, hm⟩
    cases f with
    | ret v => exact .ret p
    | brk => exact .brk p
    | next => exact .next (fin p)
    | cont => exact .cont (fin p)
  · rintro h' tk m' news' F' N' _ hJ
    exact done m' news' h' tk hJ F' N'
/-- the walk stands still here -/
def Stop (p : Prop) : Prop := p
theorem stop {p : Prop} (h : Stop p) : p := h
/-- a part's items: a value that is no tuple, or a part -/
def Plain : Value → Prop
  | .str _ _ => True
  | .int _ _ => True
  | .none => True
  | _ => False
inductive Items (hR h : Heap) : List Value → List (Option T) → Prop
  | nil : Items hR h [] []
  | plain {v : Value} {vs : List Value} {its : List (Option T)} : Plain v → Items hR h vs its → Items hR h (v :: vs) (none :: its)
  | part {v : Value} {t : T} {vs : List Value} {its : List (Option T)} : At hR h t v → Items hR h vs its → Items hR h (v :: vs) (some t :: its)
def Ts.toL : Ts → List T
  | .nil => []
  | .cons t ts => t :: ts.toL
def items (b : Bg) (ks : Ts) : List (Option T) := (match b with | .e => [] | .k1 => [none] | _ => [none, none]) ++ ks.toL.map some
theorem items_kids {hR h : Heap} : ∀ {ks : Ts} {kv : List Value}, AtL hR h ks kv → Items hR h kv (ks.toL.map some)
  | .nil, _, e => by have e' : _ = [] := e; subst e'; exact .nil
  | .cons t ts, _, ⟨v, r, e, h1, h2⟩ => by subst e; exact .part h1 (items_kids h2)
theorem items_of {hR h : Heap} {b : Bg} {ks : Ts} {bv kv : List Value} (hb : b.vals bv) (hk : AtL hR h ks kv) : Items hR h (bv ++ kv) (items b ks) := by
  have z := items_kids hk
  cases b with
  | e => have hb' : bv = [] := hb; subst hb'; exact z
  | lvk i => obtain ⟨t, u, rfl⟩ := hb; exact .plain trivial (.plain trivial z)
  | lvn i => obtain ⟨t, u, rfl⟩ := hb; exact .plain trivial (.plain trivial z)
  | k1 => obtain ⟨t, rfl⟩ := hb; exact .plain trivial z
  | n3 => obtain ⟨u, rfl⟩ := hb; exact .plain trivial (.plain trivial z)
  | i78 => obtain ⟨t, u, rfl⟩ := hb; exact .plain trivial (.plain trivial z)
  | km => obtain ⟨t, u, rfl⟩ := hb; exact .plain trivial (.plain trivial z)
theorem Items.length {hR h : Heap} {vs : List Value} {its : List (Option T)} (i : Items hR h vs its) : vs.length = its.length := by
  induction i <;> simp [*]
theorem Items.get {hR h : Heap} {vs : List Value} {its : List (Option T)} (q : Items hR h vs its) : ∀ {i : Nat} {v : Value}, vs[i]? = some v → (Plain v ∧ its[i]? = some none) ∨ ∃ t, At hR h t v ∧ its[i]? = some (some t) := by
  induction q with
  | nil => intro i v e; simp at e
  | plain p _ ih =>
    intro i v e
    cases i with
    | zero => simp at e; subst e; exact .inl ⟨p, rfl⟩
    | succ i => simpa using ih (by simpa using e)
  | part p _ ih =>
    intro i v e
    cases i with
    | zero => simp at e; subst e; exact .inr ⟨_, p, rfl⟩
    | succ i => simpa using ih (by simpa using e)

mutual
def T.lev : T → Int
  | .mk b ks => ks.mlev + (if b.lev.isSome then 1 else 0)
def Ts.mlev : Ts → Int
  | .nil => 0
  | .cons t ts => max t.lev ts.mlev
end
def mstep (p : Int × Int) : Option T → Int × Int
  | none => p
  | some t => (if t.lev > p.1 then t.lev else p.1, p.2 + t.size)
mutual
theorem T.lev_nn : ∀ t : T, 0 ≤ t.lev
  | .mk b ks => by have := Ts.mlev_nn ks; simp only [T.lev]; split <;> omega
theorem Ts.mlev_nn : ∀ ts : Ts, 0 ≤ ts.mlev
  | .nil => Int.le_refl _
  | .cons t ts => by have := Ts.mlev_nn ts; simp only [Ts.mlev]; omega
end
theorem mfold_kids : ∀ (ks : Ts) (l n : Int), 0 ≤ l → (ks.toL.map some).foldl mstep (l, n) = (max l ks.mlev, n + ks.size)
  | .nil, l, n, h => by simp [Ts.toL, Ts.mlev, Ts.size]; omega
  | .cons t ts, l, n, h => by
    have := T.lev_nn t
    simp only [Ts.toL, List.map_cons, List.foldl_cons, mstep]
    rw [mfold_kids ts _ _ (by split <;> omega)]
    simp only [Ts.mlev, Ts.size, Prod.mk.injEq]
    split <;> omega
theorem mfold (b : Bg) (ks : Ts) : (items b ks).foldl mstep (0, 1) = (ks.mlev, ((T.mk b ks).size : Int)) := by
  have h := Ts.mlev_nn ks
  have z := mfold_kids ks 0 1 (Int.le_refl _)
  have e : (items b ks).foldl mstep (0, 1) = (ks.toL.map some).foldl mstep (0, 1) := by cases b <;> rfl
  rw [e, z]
  simp only [T.size, Prod.mk.injEq]
  omega
theorem mfold_next {its : List (Option T)} {i : Nat} {o : Option T} (h : its[i]? = some o) (p : Int × Int) : (its.take (i + 1)).foldl mstep p = mstep ((its.take i).foldl mstep p) o := by
  rw [List.take_add_one, h]; simp
mutual
theorem T.lev_depth : ∀ t : T, t.lev ≤ t.depth
  | .mk b ks => by have := Ts.mlev_depth ks; simp only [T.lev, T.depth]; split <;> omega
theorem Ts.mlev_depth : ∀ ts : Ts, ts.mlev ≤ ts.depth
  | .nil => Int.le_refl _
  | .cons t ts => by have := T.lev_depth t; have := Ts.mlev_depth ts; simp only [Ts.mlev, Ts.depth]; omega
end
end Mine
end T2

section T3
open PySem PySem.W PyProof.Rows PySem.Spec PySem.Calls
set_option maxHeartbeats 200000
namespace Mine
theorem fr_all {g h h' : Heap} {L : Addr} {m : Str → Option Value} (F : Fr g L h m) (k : ∀ b o, h.get? b = some o → h'.get? b = some o) : Fr g L h' m := F.keeps k
theorem news_all {g h h' : Heap} {L : Addr} {news : List (Addr × Obj)} (N : News g L h news) (k : ∀ b o, h.get? b = some o → h'.get? b = some o) : News g L h' news := fun p hp => ⟨k _ _ (N p hp).1, (N p hp).2⟩
/-- level, in a walk whose base holds the part -/
theorem level_use {w : World} {mean : ExcName → Option Value} {mg mb : Str → Option Value} {hR g : Heap} {dp un : Nat} {fr : Option (List Env)} {gd : Option (List Code)} {s : Shared} {Q E : Value → Shared → Prop} {L a : Addr} {m : Str → Option Value} {news : List (Addr × Obj)}
    {b : Bg} {ks : Ts}
    (X : (hd.heap_39 w.params).In hR) (T : Top hd.view_39 (looseW hd.view_39 [Str.ofString "ChanError"]) mean mg mb hR) (stg : hR.StaysIn g) (F : Fr g L s.heap m) (N : News g L s.heap news) (hd : dp + 10 < recursionLimit) (hu : un + 100 < cLine)
    (hat : At hR g (.mk b ks) (.ref a))
    (ret : ∀ h' tk', Fr g L h' m → News g L h' news → Q (.bool b.lev.isSome) { s with heap := h', toks := tk' }) :
    wpAny (model PySem.Challenge.rw_pq0225_01.row.prog w) (Ar dp un fr gd) (call (.ref 106) [.ref a]) Q E s := by
  obtain ⟨a', bv, kv, n, e, ho, hn, hz, hb, hk⟩ := At.mono (KeepT.of_keep fun b o e => F.keep b o e) hat
  cases e
  exact level_ok X T (fun b o e => F.keep b o (stg b o e)) hd hu ho hn (head_of hb hk) hz fun h' tk' k => ret h' tk' (fr_all F k) (news_all N k)
theorem map2 {m₁ m₀ : Str → Option Value} {x w y1 y2 : Str} {v1 v2 : Value} (h1 : m₁ y1 = some v1) (h2 : m₁ y2 = some v2) (h : ∀ z, z ≠ x → z ≠ w → z ≠ y1 → z ≠ y2 → m₁ z = m₀ z) :
    m₁ = fun z => if z = y1 then some v1 else if z = y2 then some v2 else if z = x then m₁ x else if z = w then m₁ w else m₀ z := by
  funext z
  by_cases a : z = y1
  · simp [a, h1]
  · rw [if_neg a]
    by_cases b : z = y2
    · simp [b, h2]
    · rw [if_neg b]
      by_cases c : z = x
      · simp [c]
      · rw [if_neg c]
        by_cases d : z = w
        · simp [d]
        · rw [if_neg d]; exact h z c d a b
/-- the names that a turn leaves: two ints, the turn's own name, one more -/
def Keeps2 (m₀ : Str → Option Value) (x w y1 y2 : Str) (a b : Int) (m' : Str → Option Value) : Prop :=
  (∃ t, m' y1 = some (.int a t)) ∧ (∃ t, m' y2 = some (.int b t)) ∧ ∀ z, z ≠ x → z ≠ w → z ≠ y1 → z ≠ y2 → m' z = m₀ z
def Turn2 (h₀ : Heap) (L : Addr) (s : Shared) (m₀ : Str → Option Value) (x u y1 y2 : Str) (p : Int × Int) (own : List (Addr × Obj)) (fl : Flow) (s₂ : Shared) : Prop :=
  fl = .next ∧ ∃ h' tk' m' news', s₂ = { s with heap := h', toks := tk' } ∧ Fr h₀ L h' m' ∧ News h₀ L h' news' ∧ (∀ p ∈ own, p ∈ news') ∧ Keeps2 m₀ x u y1 y2 p.1 p.2 m'
theorem for_tup2 {prog : Program} {w : World} {A : Around} {E : Value → Shared → Prop} {s : Shared} {env : Env} {h₀ : Heap} {x : Str} {body : List Stmt} {Q : Flow → Shared → Prop}
    {l : Addr} {vs : List Value} {k : Nat} {m₀ : Str → Option Value} (u y1 y2 : Str) (f : Nat → Int × Int)
    (hh : A.handled = none) (hl : h₀.get? l = some (tupO vs k)) (F : Fr h₀ env.locals s.heap m₀) (hj : Keeps2 m₀ x u y1 y2 (f 0).1 (f 0).2 m₀)
    (turn : ∀ i v lt pt uo ui h tk own, vs[i]? = some v → Fr h₀ env.locals h (fun z => if z = x then some v else if z = y1 then some (.int (f i).1 lt) else if z = y2 then some (.int (f i).2 pt) else if z = x then uo else if z = u then ui else m₀ z) → News h₀ env.locals h own →
      wpAny (model prog w) A (execs body env) (Turn2 h₀ env.locals s m₀ x u y1 y2 (f (i + 1)) own) E { s with heap := h, toks := tk })
    (done : ∀ lt pt uo ui h tk, Fr h₀ env.locals h (fun z => if z = y1 then some (.int (f vs.length).1 lt) else if z = y2 then some (.int (f vs.length).2 pt) else if z = x then uo else if z = u then ui else m₀ z) → Q .next { s with heap := h, toks := tk }) :
    wpAny (model prog w) A (pyIter (.ref l)) (fun it s₂ => LoopAtV prog w A h₀ env x body Q E it s₂) E s := by
  refine for_tup (fun i m nx => nx = [] ∧ Keeps2 m₀ x u y1 y2 (f i).1 (f i).2 m) hh hl F (news := []) (fun _ h => nomatch h) ⟨rfl, hj⟩ ?_ ?_
  · rintro i v m₁ nx h tk own hv hoff ⟨rfl, ⟨lt, hm1⟩, ⟨pt, hm2⟩, hm3⟩ F2 N2
    rw [map2 hm1 hm2 hm3] at F2
    refine wpAny_mono (turn i v lt pt _ _ h tk own hv F2 N2) (fun fl s₂ p => ?_) fun _ _ e => e
    obtain ⟨rfl, h', tk', m', news', e, F', N', hs, hk⟩ := p
    subst e
    exact ⟨h', tk', m', news', [], rfl, F', N', (fun _ h => nomatch h), hs, (fun _ _ _ h => nomatch h), rfl, hk⟩
  · rintro m₁ nx h tk ⟨rfl, ⟨lt, hm1⟩, ⟨pt, hm2⟩, hm3⟩ F2 N2
    rw [map2 hm1 hm2 hm3] at F2
    exact done lt pt _ _ h tk F2
theorem at_ref {hR h : Heap} {t : T} {v : Value} (a : At hR h t v) : ∃ c, v = .ref c := by
  obtain ⟨b, ks⟩ := t
  obtain ⟨c, _, _, _, e, _⟩ := a
  exact ⟨c, e⟩
theorem depth_kid : ∀ {ks : Ts} {t : T}, t ∈ ks.toL → t.depth ≤ ks.depth
  | .nil, _, h => nomatch h
  | .cons a r, t, h => by
    simp only [Ts.depth]
    rcases List.mem_cons.mp h with rfl | h
    · omega
    · have := depth_kid h; omega
theorem depth_item {b : Bg} {ks : Ts} {i : Nat} {t : T} (h : (items b ks)[i]? = some (some t)) : t.depth ≤ ks.depth := by
  have m := List.mem_of_getElem? h
  refine depth_kid ?_
  rcases List.mem_append.mp m with m | m
  · cases b <;> simp at m
  · simpa using m
end Mine
end T3

section F10
open PySem PySem.W PyProof.Rows PySem.Spec PySem.Calls
set_option maxHeartbeats 2000000
namespace Mine
theorem topOffF10 : True := by
  w_top off
  trivial
local macro_rules | `(tactic| k_all) => `(tactic| assumption)
local macro_rules | `(tactic| walk_at "call ref") => `(tactic| (k_here; (with_reducible show wpAny _ _ (call (Value.ref 106) _) _ _ _); (refine' level_use ?kx ?kt ?ks ?k1 ?k2 ?k3 ?k4 ?k5 ?_; (case k1 => k_asm); (case k2 => k_asm); (case k5 => assumption); (case ks => assumption); (case kx => assumption); (case kt => assumption); (case k3 => ((try dsimp only [Ar]); omega)); (case k4 => ((try dsimp only [Ar]); omega))); intro h9 tk9 F9 N9))
local macro_rules | `(tactic| walk_at "pyIter ref") => `(tactic| (k_here; (refine' stop ?_)))
def MSpec (w : World) (hR : Heap) (d : Nat) : Prop :=
  ∀ (dp un : Nat) (fr : Option (List Env)) (gd : Option (List Code)) (s : Shared) (Q E : Value → Shared → Prop) (t : T) (v : Value),
    hR.StaysIn s.heap → At hR s.heap t v → t.depth ≤ d → dp + 20 + 10 * d < recursionLimit → un + 200 + 20 * d < cLine →
    (∀ a p q k h' tk', (∀ b o, s.heap.get? b = some o → h'.get? b = some o) → h'.get? a = some (tupO [.int t.lev p, .int t.size q] k) → s.heap.get? a = none → Q (.ref a) { s with heap := h', toks := tk' }) →
    wpAny (model PySem.Challenge.rw_pq0225_01.row.prog w) (Ar dp un fr gd) (call (.ref 113) [v]) Q E s
theorem isi_at {prog : Program} {w : World} {A : Around} {E Q : Value → Shared → Prop} {s : Shared} {hR g : Heap} {L c : Addr} {m : Str → Option Value} {t : T} (F : Fr g L s.heap m) (hat : At hR g t (.ref c)) (h : Q (.bool true) s) :
    wpAny (model prog w) A (call (.builtin "isinstance") [.ref c, .type "tuple"]) Q E s := by
  obtain ⟨b, ks⟩ := t
  obtain ⟨a, bv, kv, n, e, ho, _⟩ := hat
  cases e
  exact PySem.IsiPair.tuple_tuple (F.keep _ _ ho) rfl h
theorem measured_use {w : World} {hR g : Heap} {d : Nat} {dp un : Nat} {fr : Option (List Env)} {gd : Option (List Code)} {s : Shared} {Q E : Value → Shared → Prop} {L c : Addr} {m : Str → Option Value} {news : List (Addr × Obj)} {t : T}
    (IH : MSpec w hR d) (stg : hR.StaysIn g) (F : Fr g L s.heap m) (N : News g L s.heap news) (hat : At hR g t (.ref c)) (hdp : t.depth ≤ d) (hd : dp + 20 + 10 * d < recursionLimit) (hu : un + 200 + 20 * d < cLine)
    (ret : ∀ a p q k h' tk', Fr g L h' m → News g L h' ((a, tupO [.int t.lev p, .int t.size q] k) :: news) → Q (.ref a) { s with heap := h', toks := tk' }) :
    wpAny (model PySem.Challenge.rw_pq0225_01.row.prog w) (Ar dp un fr gd) (call (.ref 113) [.ref c]) Q E s := by
  refine IH dp un fr gd s Q E t (.ref c) (fun b o e => F.keep b o (stg b o e)) (At.mono (KeepT.of_keep fun b o e => F.keep b o e) hat) hdp hd hu ?_
  intro a p q k h' tk' hk ha ha0
  refine ret a p q k h' tk' (fr_all F hk) ?_
  intro z hz
  rcases List.mem_cons.mp hz with rfl | hz
  · refine ⟨ha, fun q => ?_, ?_⟩
    · obtain ⟨oL, _, _, hoL, _⟩ := F.ns
      simp only at q
      rw [q, hoL] at ha0; cases ha0
    · cases q : g.get? a with
      | none => rfl
      | some o => have := F.keep _ _ q; rw [this] at ha0; cases ha0
  · exact news_all N hk z hz
local macro_rules | `(tactic| walk_at "call builtin:isinstance") => `(tactic| (k_here; (with_reducible show wpAny _ _ (call _ [Value.ref _, Value.type "tuple"]) _ _ _); (refine' isi_at ?k1 ?k2 ?_; (case k1 => k_asm); (case k2 => assumption))))
local macro_rules | `(tactic| walk_at "call ref") => `(tactic| (k_here; (with_reducible show wpAny _ _ (call (Value.ref 113) _) _ _ _); (refine' measured_use ?ki ?ks ?k1 ?k2 ?k5 ?k6 ?k3 ?k4 ?_; (case k1 => k_asm); (case k2 => k_asm); (case k5 => assumption); (case ks => assumption); (case ki => assumption); (case k6 => assumption); (case k3 => ((try dsimp only [Ar]); omega)); (case k4 => ((try dsimp only [Ar]); omega))); intro a9 p9 q9 k9 h9 tk9 F9 N9))
local macro_rules | `(tactic| walk_at "subscriptTail") => `(tactic| (k_here; (with_reducible show wpAny _ _ (subscriptTail _ _ (Value.ref _) (Value.int 0 _)) _ _ _); k_dflt (refine' item_tup0 ?k1 ?k2 ?_ ?k4; (case k4 => with_unfolding_all rfl); (case k1 => k_asm); (case k2 => k_mem); k_whole)))
local macro_rules | `(tactic| walk_at "subscriptTail") => `(tactic| (k_here; (with_reducible show wpAny _ _ (subscriptTail _ _ (Value.ref _) (Value.int 1 _)) _ _ _); k_dflt (refine' item_tup1 ?k1 ?k2 ?_ ?k4; (case k4 => with_unfolding_all rfl); (case k1 => k_asm); (case k2 => k_mem); k_whole)))
theorem measured_step {w : World} {mean : ExcName → Option Value} {mg mb : Str → Option Value} {hR : Heap} (X : (hd.heap_39 w.params).In hR) (T : Top hd.view_39 (looseW hd.view_39 [Str.ofString "ChanError"]) mean mg mb hR) (d : Nat) (IH : MSpec w hR d) : MSpec w hR (d + 1) := by
  intro dp un fr gd s Q E t v st hat hdp hd hu ret
  have X0 := X
  obtain ⟨b, ks⟩ := t
  obtain ⟨a, bv, kv, n, e, ho, hn, hz, hb, hk⟩ := id hat
  subst e
  revert X; k_fill; intro X
  refine' enter [] X T st (fun _ h => nomatch h) ?k6 ?k7 ?k8 ?k9 ?kB ?h ?c2 ?c3 ?c4 ?c5
  case k6 => k_is
  case k7 => k_is
  case k8 => show dp < _; omega
  case k9 => exact BindsTo.of_eq rfl
  case kB => exact locs rfl
  case c2 => exact rfl
  case c3 => exact rfl
  case c4 => exact rfl
  case c5 => decide
  case h =>
    intro g' L' h' F' N' l1 X' T' stg kG'
    k_lt l1
    have kG : s.heap.StaysIn g' := fun b o e => kG' b o e (by simp)
    have hg : At hR g' (.mk b ks) (.ref a) := At.mono (KeepT.of_keep kG) hat
    have hog := kG _ _ ho
    dsimp only
    (try k_unmd); (try k_fold)
    k_steps
    rename Fr _ _ _ _ => F1
    refine' For_invV g' ?x1 ?x2 ?x3 ?x4 ?x5
    case x1 => exact rfl
    case x2 => exact rfl
    case x4 => intro _; exact rfl
    case x5 => passes_own
    case x3 =>
      k_steps
      refine for_tup2 (Str.ofString "inner") (Str.ofString "levels") (Str.ofString "parts") (fun i => ((items b ks).take i).foldl mstep (0, 1)) rfl hog F1 ⟨⟨_, rfl⟩, ⟨_, rfl⟩, fun _ _ _ _ _ => rfl⟩ ?jt ?jd
      case jt =>
        intro i v lt pt uo ui h tk own hv F2 N2
        clear F1
        replace F2 : Fr g' L' h _ := F2
        replace N2 : News g' L' h own := N2
        rcases (items_of hb (AtL.mono (KeepT.of_keep kG) hk)).get hv with ⟨hp, hi⟩ | ⟨t, hat1, hi⟩
        · rw [mfold_next hi]
          dsimp only [mstep]
          cases v with
          | str c t =>
            k_steps
            exact ⟨rfl, _, _, _, _, rfl, F2, N2, fun _ h => h, ⟨_, rfl⟩, ⟨_, rfl⟩, fun z h1 h2 h3 h4 => by simp only [if_neg h1, if_neg h2, if_neg h3, if_neg h4]⟩
          | int c t =>
            k_steps
            exact ⟨rfl, _, _, _, _, rfl, F2, N2, fun _ h => h, ⟨_, rfl⟩, ⟨_, rfl⟩, fun z h1 h2 h3 h4 => by simp only [if_neg h1, if_neg h2, if_neg h3, if_neg h4]⟩
          | none =>
            k_steps
            exact ⟨rfl, _, _, _, _, rfl, F2, N2, fun _ h => h, ⟨_, rfl⟩, ⟨_, rfl⟩, fun z h1 h2 h3 h4 => by simp only [if_neg h1, if_neg h2, if_neg h3, if_neg h4]⟩
          | _ => exact hp.elim
        · rw [mfold_next hi]
          dsimp only [mstep]
          have hdt : t.depth ≤ d := by
            have := depth_item hi
            simp only [Mine.T.depth] at hdp; omega
          obtain ⟨c, rfl⟩ := at_ref hat1
          k_steps
          rename Fr _ _ _ _ => F3
          rename News _ _ _ _ => N3
          exact ⟨rfl, _, _, _, _, rfl, F3, N3, fun _ h => List.Mem.tail _ (List.Mem.tail _ h), ⟨_, rfl⟩, ⟨_, rfl⟩, fun z h1 h2 h3 h4 => by simp only [if_neg h1, if_neg h2, if_neg h3, if_neg h4]⟩
      case jd =>
        intro lt pt uo ui h tk F2
        clear F1
        replace F2 : Fr g' L' h _ := F2
        have N2 : News g' L' h [] := fun _ h => nomatch h
        k_steps
        rename Fr _ _ _ _ => F3
        rename News _ _ _ _ => N3
        have z := N3 _ (List.Mem.head _)
        have e : ((items b ks).take (bv ++ kv).length).foldl mstep (0, 1) = (ks.mlev, ((Mine.T.mk b ks).size : Int)) := by
          rw [(items_of hb hk).length, List.take_length, mfold]
        simp only [e] at z
        exact ret _ _ _ _ _ _ (fun b o e => F3.keep b o (kG b o e)) (by simp only [Mine.T.lev]; exact z.1) (fresh_of_stays kG z.2.2)
theorem measured_zero {w : World} {hR : Heap} : MSpec w hR 0 := by
  intro dp un fr gd s Q E t v st hat hdp
  obtain ⟨b, ks⟩ := t
  simp only [T.depth] at hdp
  omega
theorem measured_ok {w : World} {mean : ExcName → Option Value} {mg mb : Str → Option Value} {hR : Heap} (X : (hd.heap_39 w.params).In hR) (T : Top hd.view_39 (looseW hd.view_39 [Str.ofString "ChanError"]) mean mg mb hR) : ∀ d, MSpec w hR d
  | 0 => measured_zero
  | d + 1 => measured_step X T d (measured_ok X T d)
end Mine
end F10

section T4
open PySem PySem.W PyProof.Rows PySem.Spec PySem.Calls
set_option maxHeartbeats 200000
namespace Mine
mutual
/-- the law's own walk: which part is gone too far, and what it has seen -/
def T.gone (B0 B1 : Int) : T → Int → Int → Int → Option (Bool × Int) × Int × Int
  | .mk b ks, lv, c, p =>
    if (lv + (if b.lev.isSome then 1 else 0)) > B0 then (some (true, b.lev.getD p), c + 1, b.lev.getD p)
    else if c + 1 > B1 then (some (false, b.lev.getD p), c + 1, b.lev.getD p)
    else Ts.gone B0 B1 ks (lv + (if b.lev.isSome then 1 else 0)) (c + 1) (b.lev.getD p)
def Ts.gone (B0 B1 : Int) : Ts → Int → Int → Int → Option (Bool × Int) × Int × Int
  | .nil, lv, c, p => (none, c, p)
  | .cons t ts, lv, c, p =>
    match T.gone B0 B1 t lv c p with
    | (some r, c', p') => (some r, c', p')
    | (none, c', p') => Ts.gone B0 B1 ts lv c' p'
end
def goneL (B0 B1 : Int) : List (Option T) → Int → Int → Int → Option (Bool × Int) × Int × Int
  | [], lv, c, p => (none, c, p)
  | none :: r, lv, c, p => goneL B0 B1 r lv c p
  | some t :: r, lv, c, p =>
    match T.gone B0 B1 t lv c p with
    | (some r, c', p') => (some r, c', p')
    | (none, c', p') => goneL B0 B1 r lv c' p'
theorem goneL_kids (B0 B1 : Int) : ∀ (ks : Ts) (lv c p : Int), goneL B0 B1 (ks.toL.map some) lv c p = ks.gone B0 B1 lv c p
  | .nil, lv, c, p => rfl
  | .cons t ts, lv, c, p => by
    simp only [Ts.toL, List.map_cons, goneL, Ts.gone]
    split
    · rfl
    · exact goneL_kids B0 B1 ts lv _ _
theorem goneL_items (B0 B1 : Int) (b : Bg) (ks : Ts) (lv c p : Int) : goneL B0 B1 (items b ks) lv c p = ks.gone B0 B1 lv c p := by
  have e : goneL B0 B1 (items b ks) lv c p = goneL B0 B1 (ks.toL.map some) lv c p := by cases b <;> rfl
  rw [e, goneL_kids]
theorem goneL_plain {B0 B1 : Int} {its : List (Option T)} {i : Nat} (h : its[i]? = some none) (lv c p : Int) : goneL B0 B1 (its.drop i) lv c p = goneL B0 B1 (its.drop (i + 1)) lv c p := by
  obtain ⟨hi, e⟩ := List.getElem?_eq_some_iff.mp h
  rw [List.drop_eq_getElem_cons hi, e]
  rfl
theorem goneL_none {B0 B1 : Int} {its : List (Option T)} {i : Nat} {t : T} (h : its[i]? = some (some t)) {lv c p c' p' : Int} (e1 : t.gone B0 B1 lv c p = (none, c', p')) : goneL B0 B1 (its.drop i) lv c p = goneL B0 B1 (its.drop (i + 1)) lv c' p' := by
  obtain ⟨hi, e⟩ := List.getElem?_eq_some_iff.mp h
  rw [List.drop_eq_getElem_cons hi, e]
  simp only [goneL, e1]
theorem goneL_some {B0 B1 : Int} {its : List (Option T)} {i : Nat} {t : T} (h : its[i]? = some (some t)) {lv c p c' p' : Int} {r : Bool × Int} (e1 : t.gone B0 B1 lv c p = (some r, c', p')) : goneL B0 B1 (its.drop i) lv c p = (some r, c', p') := by
  obtain ⟨hi, e⟩ := List.getElem?_eq_some_iff.mp h
  rw [List.drop_eq_getElem_cons hi, e]
  simp only [goneL, e1]
def word (b : Bool) : Str := if b then Str.ofString "levels" else Str.ofString "parts"
theorem map1 {m₁ m₀ : Str → Option Value} {x w : Str} (h : ∀ z, z ≠ x → z ≠ w → m₁ z = m₀ z) :
    m₁ = fun z => if z = x then m₁ x else if z = w then m₁ w else m₀ z := by
  funext z
  by_cases c : z = x
  · simp [c]
  · rw [if_neg c]
    by_cases d : z = w
    · simp [d]
    · rw [if_neg d]; exact h z c d
def Turn1 (h₀ : Heap) (L : Addr) (s : Shared) (m₀ : Str → Option Value) (x u : Str) (P : List (Addr × Obj) → Prop) (own : List (Addr × Obj)) (Qr : Value → Shared → Prop) (fl : Flow) (s₂ : Shared) : Prop :=
  match fl with
  | .ret v => Qr v s₂
  | .next => ∃ h' tk' m' nx' news', s₂ = { s with heap := h', toks := tk' } ∧ Fr h₀ L h' m' ∧ News h₀ L h' news' ∧ (∀ p ∈ nx', p ∈ news') ∧ (∀ p ∈ own, p ∈ news') ∧ TbOff own nx' ∧ P nx' ∧ ∀ z, z ≠ x → z ≠ u → m' z = m₀ z
  | _ => False
theorem for_tup1 {prog : Program} {w : World} {A : Around} {E : Value → Shared → Prop} {s : Shared} {env : Env} {h₀ : Heap} {x : Str} {body : List Stmt} {Q : Flow → Shared → Prop}
    {l : Addr} {vs : List Value} {k : Nat} {m₀ : Str → Option Value} {news : List (Addr × Obj)} (u : Str) (P : Nat → List (Addr × Obj) → Prop)
    (hh : A.handled = none) (hl : h₀.get? l = some (tupO vs k)) (F : Fr h₀ env.locals s.heap m₀) (N : News h₀ env.locals s.heap news) (hj : P 0 news)
    (turn : ∀ i v nx uo ui h tk own, vs[i]? = some v → TbOff own nx → P i nx → Fr h₀ env.locals h (fun z => if z = x then some v else if z = x then uo else if z = u then ui else m₀ z) → News h₀ env.locals h (nx ++ own) →
      wpAny (model prog w) A (execs body env) (Turn1 h₀ env.locals s m₀ x u (P (i + 1)) own (fun v s' => Q (.ret v) s')) E { s with heap := h, toks := tk })
    (done : ∀ nx uo ui h tk, P vs.length nx → Fr h₀ env.locals h (fun z => if z = x then uo else if z = u then ui else m₀ z) → News h₀ env.locals h nx → Q .next { s with heap := h, toks := tk }) :
    wpAny (model prog w) A (pyIter (.ref l)) (fun it s₂ => LoopAtV prog w A h₀ env x body Q E it s₂) E s := by
  refine for_tup (fun i m nx => P i nx ∧ ∀ z, z ≠ x → z ≠ u → m z = m₀ z) hh hl F N ⟨hj, fun _ _ _ => rfl⟩ ?_ ?_
  · rintro i v m₁ nx h tk own hv hoff ⟨hp, hm3⟩ F2 N2
    rw [map1 hm3] at F2
    refine wpAny_mono (turn i v nx _ _ h tk own hv hoff hp F2 N2) (fun fl s₂ p => ?_) fun _ _ e => e
    cases fl with
    | ret v => exact p
    | next =>
      obtain ⟨h', tk', m', nx', news', e, F', N', hn, hs, ho, hP, hk⟩ := p
      subst e
      exact ⟨h', tk', m', news', nx', rfl, F', N', hn, hs, ho, hP, hk⟩
    | brk => exact p.elim
    | cont => exact p.elim
  · rintro m₁ nx h tk ⟨hp, hm3⟩ F2 N2
    rw [map1 hm3] at F2
    exact done nx _ _ h tk hp F2 N2
/-- level, its answer named -/
theorem level_use2 {w : World} {mean : ExcName → Option Value} {mg mb : Str → Option Value} {hR g : Heap} {dp un : Nat} {fr : Option (List Env)} {gd : Option (List Code)} {s : Shared} {Q E : Value → Shared → Prop} {L a : Addr} {m : Str → Option Value} {news : List (Addr × Obj)}
    {b : Bg} {ks : Ts} {bb : Bool}
    (X : (hd.heap_39 w.params).In hR) (T : Top hd.view_39 (looseW hd.view_39 [Str.ofString "ChanError"]) mean mg mb hR) (stg : hR.StaysIn g) (F : Fr g L s.heap m) (N : News g L s.heap news) (hd : dp + 10 < recursionLimit) (hu : un + 100 < cLine)
    (hat : At hR g (.mk b ks) (.ref a)) (hb : b.lev.isSome = bb)
    (ret : ∀ h' tk', Fr g L h' m → News g L h' news → Q (.bool bb) { s with heap := h', toks := tk' }) :
    wpAny (model PySem.Challenge.rw_pq0225_01.row.prog w) (Ar dp un fr gd) (call (.ref 106) [.ref a]) Q E s := by
  subst hb
  exact level_use X T stg F N hd hu hat ret
theorem lev_vals {b : Bg} {i : Int} {bv : List Value} (h : b.lev = some i) (hb : b.vals bv) : ∃ v u, bv = [v, .int i u] := by
  cases b <;> simp [Bg.lev] at h
  · subst h; obtain ⟨t, u, rfl⟩ := hb; exact ⟨_, _, rfl⟩
  · subst h; obtain ⟨t, u, rfl⟩ := hb; exact ⟨_, _, rfl⟩
/-- the second item of a part that the base holds -/
theorem item_base1 {prog : Program} {w : World} {A : Around} {E Q : Value → Shared → Prop} {s : Shared} {g : Heap} {L a : Addr} {m : Str → Option Value} {x y : Value} {r : List Value} {n : Nat} {value slice : Expr} {u : Tok} (F : Fr g L s.heap m) (ha : g.get? a = some (tupO (x :: y :: r) n)) (h : Q y s)
    (hs : subscripted slice false (.ref a) (.int 1 u) = operate [.ref a, .int 1 u] (getItem (.ref a) (.int 1 u)) := by with_unfolding_all rfl) :
    wpAny (model prog w) A (subscriptTail value slice (.ref a) (.int 1 u)) Q E s :=
  item_tupleT (l := x :: y :: r) (j := 1) ⟨_, F.keep _ _ ha, rfl, n, rfl⟩ (by decide) (by decide) (by simp [seqIndex?]; omega) rfl h hs
theorem item_base0 {prog : Program} {w : World} {A : Around} {E Q : Value → Shared → Prop} {s : Shared} {g : Heap} {L a : Addr} {m : Str → Option Value} {x : Value} {r : List Value} {n : Nat} {value slice : Expr} {u : Tok} (F : Fr g L s.heap m) (ha : g.get? a = some (tupO (x :: r) n)) (h : Q x s)
    (hs : subscripted slice false (.ref a) (.int 0 u) = operate [.ref a, .int 0 u] (getItem (.ref a) (.int 0 u)) := by with_unfolding_all rfl) :
    wpAny (model prog w) A (subscriptTail value slice (.ref a) (.int 0 u)) Q E s :=
  item_tupleT (l := x :: r) (j := 0) ⟨_, F.keep _ _ ha, rfl, n, rfl⟩ (by decide) (by decide) (by simp [seqIndex?]) rfl h hs
end Mine
end T4

section F11
open PySem PySem.W PyProof.Rows PySem.Spec PySem.Calls
set_option maxHeartbeats 2000000
namespace Mine
local macro_rules | `(tactic| walk_at "no such step") => `(tactic| fail)
theorem topOffF11 : True := by
  w_top off
  trivial
local macro_rules | `(tactic| k_all) => `(tactic| assumption)
local macro_rules | `(tactic| walk_at "call ref") => `(tactic| (k_here; (with_reducible show wpAny _ _ (call (Value.ref 106) _) _ _ _); (refine' level_use2 ?kx ?kt ?ks ?k1 ?k2 ?k3 ?k4 ?k5 ?k6 ?_; (case k1 => k_asm); (case k2 => k_asm); (case k5 => assumption); (case k6 => assumption); (case ks => assumption); (case kx => assumption); (case kt => assumption); (case k3 => ((try dsimp only [Ar]); omega)); (case k4 => ((try dsimp only [Ar]); omega))); intro h9 tk9 F9 N9))
local macro_rules | `(tactic| walk_at "pyIter ref") => `(tactic| (k_here; (refine' stop ?_)))
local macro_rules | `(tactic| walk_at "subscriptTail") => `(tactic| (k_here; (with_reducible show wpAny _ _ (subscriptTail _ _ (Value.ref _) (Value.int 1 _)) _ _ _); k_dflt (refine' item_base1 ?k1 ?k2 ?_ ?k4; (case k4 => with_unfolding_all rfl); (case k1 => k_asm); (case k2 => assumption); k_whole)))
local macro_rules | `(tactic| walk_at "subscriptTail") => `(tactic| (k_here; (with_reducible show wpAny _ _ (subscriptTail _ _ (Value.ref _) (Value.int 0 _)) _ _ _); k_dflt (refine' item_base0 ?k1 ?k2 ?_ ?k4; (case k4 => with_unfolding_all rfl); (case k1 => k_asm); (case k2 => assumption); k_whole)))
local macro_rules | `(tactic| walk_at "call builtin:isinstance") => `(tactic| (k_here; (with_reducible show wpAny _ _ (call _ [Value.ref _, Value.type "tuple"]) _ _ _); (refine' isi_at ?k1 ?k2 ?_; (case k1 => k_asm); (case k2 => assumption))))
def GAt (w : World) (hR : Heap) (d : Nat) (t : T) : Prop :=
  ∀ (dp un : Nat) (fr : Option (List Env)) (gd : Option (List Code)) (s : Shared) (Q E : Value → Shared → Prop) (v : Value) (l bd : Addr) (c p lv B0 B1 : Int) (tc tp tl tb0 tb1 : Tok) (n nb : Nat),
    hR.StaysIn s.heap → At hR s.heap t v → t.depth ≤ d → dp + 20 + 10 * d < recursionLimit → un + 200 + 20 * d < cLine →
    s.heap.get? l = some (listOf #[.int c tc, .int p tp] n) → hR.get? l = none → s.heap.get? bd = some (tupO [.int B0 tb0, .int B1 tb1] nb) →
    (∀ c' p' tc' tp' n' h' tk', Keep1 l s.heap h' → h'.get? l = some (listOf #[.int c' tc', .int p' tp'] n') → t.gone B0 B1 lv c p = (none, c', p') → Q .none { s with heap := h', toks := tk' }) →
    (∀ r a k t1 t2 c' p' tc' tp' n' h' tk', Keep1 l s.heap h' → h'.get? l = some (listOf #[.int c' tc', .int p' tp'] n') → t.gone B0 B1 lv c p = (some r, c', p') → h'.get? a = some (tupO [.str (word r.1) t1, .int r.2 t2] k) → s.heap.get? a = none → Q (.ref a) { s with heap := h', toks := tk' }) →
    wpAny (model PySem.Challenge.rw_pq0225_01.row.prog w) (Ar dp un fr gd) (call (.ref 120) [v, .int lv tl, .ref bd, .ref l]) Q E s
def GSpec (w : World) (hR : Heap) (d : Nat) : Prop := ∀ t : T, GAt w hR d t
theorem gone_use {w : World} {hR g : Heap} {d : Nat} {dp un : Nat} {fr : Option (List Env)} {gd : Option (List Code)} {s : Shared} {Q E : Value → Shared → Prop} {L : Addr} {m : Str → Option Value} {news : List (Addr × Obj)} {nf : Obj → List (Addr × Obj)} {t : T} {l bd v : Addr} {c p lv B0 B1 : Int} {tc tp tl tb0 tb1 : Tok} {n nb : Nat}
    (IH : GSpec w hR d) (stg : hR.StaysIn g) (F : Fr g L s.heap m) (N : News g L s.heap news) (hat : At hR g t (.ref v)) (hdp : t.depth ≤ d) (hd : dp + 20 + 10 * d < recursionLimit) (hu : un + 200 + 20 * d < cLine)
    (U : ∀ o', Upd l (listOf #[.int c tc, .int p tp] n) o' news (nf o')) (hbd : g.get? bd = some (tupO [.int B0 tb0, .int B1 tb1] nb))
    (retN : ∀ c' p' tc' tp' n' h' tk', Fr g L h' m → News g L h' (nf (listOf #[.int c' tc', .int p' tp'] n')) → t.gone B0 B1 lv c p = (none, c', p') → Q .none { s with heap := h', toks := tk' })
    (retS : ∀ r a k t1 t2 c' p' tc' tp' n' h' tk', Fr g L h' m → News g L h' ((a, tupO [.str (word r.1) t1, .int r.2 t2] k) :: nf (listOf #[.int c' tc', .int p' tp'] n')) → t.gone B0 B1 lv c p = (some r, c', p') → @Ne Nat l a → Q (.ref a) { s with heap := h', toks := tk' }) :
    wpAny (model PySem.Challenge.rw_pq0225_01.row.prog w) (Ar dp un fr gd) (call (.ref 120) [.ref v, .int lv tl, .ref bd, .ref l]) Q E s := by
  have z := N _ (upd_mem (U (listOf #[.int c tc, .int p tp] n)))
  refine IH t dp un fr gd s Q E (.ref v) l bd c p lv B0 B1 tc tp tl tb0 tb1 n nb (fun b o e => F.keep b o (stg b o e)) (At.mono (KeepT.of_keep fun b o e => F.keep b o e) hat) hdp hd hu z.1 (fresh_of_stays stg z.2.2) (F.keep _ _ hbd) ?_ ?_
  · intro c' p' tc' tp' n' h' tk' k hl' e
    exact retN c' p' tc' tp' n' h' tk' (fr_keep1 F k z.2.1 z.2.2) (news_keep1 N (U _) k hl') e
  · intro r a k t1 t2 c' p' tc' tp' n' h' tk' kp hl' e ha ha0
    refine retS r a k t1 t2 c' p' tc' tp' n' h' tk' (fr_keep1 F kp z.2.1 z.2.2) ?_ e (fun q => by rw [← q, z.1] at ha0; cases ha0)
    intro q hq
    rcases List.mem_cons.mp hq with rfl | hq
    · refine ⟨ha, fun q => ?_, ?_⟩
      · obtain ⟨oL, _, _, hoL, _⟩ := F.ns
        simp only at q
        rw [q, hoL] at ha0; cases ha0
      · cases q : g.get? a with
        | none => rfl
        | some o => have := F.keep _ _ q; rw [this] at ha0; cases ha0
    · exact news_keep1 N (U _) kp hl' q hq
theorem news_one {g h : Heap} {L : Addr} {news : List (Addr × Obj)} {p : Addr × Obj} (N : News g L h news) (hp : p ∈ news) : News g L h [p] := fun q hq => by rw [List.mem_singleton.mp hq]; exact N p hp
local macro_rules | `(tactic| walk_at "call ref") => `(tactic| (k_here; (with_reducible show wpAny _ _ (call (Value.ref 120) _) _ _ _); (refine' gone_use ?ki ?ks ?k1 ?k2 ?k5 ?k6 ?k3 ?k4 ?k7 ?k8 ?kN ?kS; (case k1 => k_asm); (case k2 => k_asm); (case k5 => assumption); (case ks => assumption); (case ki => assumption); (case k6 => assumption); (case k7 => (intro o9; k_upd)); (case k8 => assumption); (case k3 => ((try dsimp only [Ar]); omega)); (case k4 => ((try dsimp only [Ar]); omega)); (case' kN => intro c9 p9 tc9 tp9 n9 h9 tk9 F9 N9 e9); (case' kS => intro r9 a9 k9 t19 t29 c9 p9 tc9 tp9 n9 h9 tk9 F9 N9 e9 hne9))))
theorem gone_step_none {w : World} {mean : ExcName → Option Value} {mg mb : Str → Option Value} {hR : Heap} (X : (hd.heap_39 w.params).In hR) (T : Top hd.view_39 (looseW hd.view_39 [Str.ofString "ChanError"]) mean mg mb hR) (d : Nat) (IH : GSpec w hR d) {b : Bg} {ks : Ts} (hlev : b.lev = none) : GAt w hR (d + 1) (.mk b ks) := by
  intro dp un fr gd s Q E v l bd c p lv B0 B1 tc tp tl tb0 tb1 n nb st hat hdp hd hu hl hl0 hbd retN retS
  have X0 := X
  obtain ⟨a, bv, kv, na, e, ho, hn, hz, hb, hk⟩ := id hat
  subst e
  revert X; k_fill; intro X
  refine' enter [(l, listOf #[.int c tc, .int p tp] n)] X T st (hide1 hl hl0) ?k6 ?k7 ?k8 ?k9 ?kB ?h ?c2 ?c3 ?c4 ?c5
  case k6 => k_is
  case k7 => k_is
  case k8 => show dp < _; omega
  case k9 => exact BindsTo.of_eq rfl
  case kB => exact locs rfl
  case c2 => exact rfl
  case c3 => exact rfl
  case c4 => exact rfl
  case c5 => decide
  case h =>
    intro g' L' h' F' N' l1 X' T' stg kG'
    k_lt l1
    have kT := gsub_at hl kG'
    have hg : At hR g' (.mk b ks) (.ref a) := At.mono kT hat
    have hog := kT _ _ _ ho
    have hbg := kT _ _ _ hbd
    dsimp only
    (try k_unmd); (try k_fold)
    have hiss : b.lev.isSome = false := by rw [hlev]; rfl
    k_steps
    · rename Fr _ _ _ _ => F1
      rename News _ _ _ _ => N1
      rename (B0 < _) => hq1
      refine retS (true, p) _ _ _ _ _ _ _ _ _ _ _ (keepH1 F1 kG' N1 (by simp) (by simp)) (News.get N1 (by k_mem)) ?_ (News.get N1 (List.Mem.head _)) (freshH kG' N1 (List.Mem.head _) (by k_all))
      simp only [Mine.T.gone, hlev]
      simp only [gt_iff_lt, Option.isSome_none, Option.isSome_some, Option.getD_none, Option.getD_some, Bool.false_eq_true, if_false, if_true, reduceIte, Int.add_zero]
      rw [if_pos hq1]
      rfl
    · rename Fr _ _ _ _ => F1
      rename News _ _ _ _ => N1
      rename (¬ B0 < _) => hq1
      rename (B1 < _) => hq2
      have hq2' : B1 < c + 1 := hq2
      refine retS (false, p) _ _ _ _ _ _ _ _ _ _ _ (keepH1 F1 kG' N1 (by simp) (by simp)) (News.get N1 (by k_mem)) ?_ (News.get N1 (List.Mem.head _)) (freshH kG' N1 (List.Mem.head _) (by k_all))
      simp only [Mine.T.gone, hlev]
      simp only [gt_iff_lt, Option.isSome_none, Option.isSome_some, Option.getD_none, Option.getD_some, Bool.false_eq_true, if_false, if_true, reduceIte, Int.add_zero]
      rw [if_neg hq1, if_pos hq2']
      rfl
    · rename Fr _ _ _ _ => F1
      rename News _ _ _ _ => N1
      rename (¬ B0 < _) => hq1
      rename (¬ B1 < _) => hq2
      have hq2' : ¬ B1 < c + 1 := hq2
      have hun : (Mine.T.mk b ks).gone B0 B1 lv c p = goneL B0 B1 ((items b ks).drop 0) (lv) (c + 1) (p) := by
        simp only [Mine.T.gone, hlev, List.drop_zero, goneL_items]
        simp only [gt_iff_lt, Option.isSome_none, Option.isSome_some, Option.getD_none, Option.getD_some, Bool.false_eq_true, if_false, if_true, reduceIte, Int.add_zero]
        rw [if_neg hq1, if_neg hq2']
      clear hq2 hq2' hq1
      refine' For_invV g' ?x1 ?x2 ?x3 ?x4 ?x5
      case x1 => exact rfl
      case x2 => exact rfl
      case x4 => intro _; exact rfl
      case x5 => passes_own
      case x3 =>
        k_steps
        refine for_tup1 (Str.ofString "told") (fun j nx => ∃ c' p' tc' tp' n', nx = [(l, listOf #[.int c' tc', .int p' tp'] n')] ∧ (Mine.T.mk b ks).gone B0 B1 lv c p = goneL B0 B1 ((items b ks).drop j) (lv) c' p') rfl hog F1 (news_one N1 (by k_mem)) ⟨_, _, _, _, _, rfl, hun⟩ ?jt ?jd
        case jt =>
          rintro j v nx uo ui h tk own hv hoff ⟨c', p', tc', tp', n', rfl, hj⟩ F2 N2
          have hoff1 : ∀ q ∈ own, q.1 ≠ l := fun q hq => hoff q hq _ (List.Mem.head _)
          clear F1 N1
          (try clear F'); (try clear N')
          replace F2 : Fr g' L' h _ := F2
          replace N2 : News g' L' h _ := N2
          simp only [List.cons_append, List.nil_append] at N2
          rcases (items_of hb (AtL.mono kT hk)).get hv with ⟨hp, hi⟩ | ⟨t, hat1, hi⟩
          · rw [goneL_plain hi] at hj
            cases v with
            | str c t =>
              k_steps
              rename Fr _ _ _ _ => F3
              rename News _ _ _ _ => N3
              exact ⟨_, _, _, _, _, rfl, F3, N3, (fun p hp => by rw [List.mem_singleton.mp hp]; exact List.Mem.head _), (fun p hp => List.Mem.tail _ hp), (fun p hp q hq => by rw [List.mem_singleton.mp hq]; exact hoff1 p hp), ⟨_, _, _, _, _, rfl, hj⟩, fun z h1 h2 => by simp only [if_neg h1, if_neg h2]⟩
            | int c t =>
              k_steps
              rename Fr _ _ _ _ => F3
              rename News _ _ _ _ => N3
              exact ⟨_, _, _, _, _, rfl, F3, N3, (fun p hp => by rw [List.mem_singleton.mp hp]; exact List.Mem.head _), (fun p hp => List.Mem.tail _ hp), (fun p hp q hq => by rw [List.mem_singleton.mp hq]; exact hoff1 p hp), ⟨_, _, _, _, _, rfl, hj⟩, fun z h1 h2 => by simp only [if_neg h1, if_neg h2]⟩
            | none =>
              k_steps
              rename Fr _ _ _ _ => F3
              rename News _ _ _ _ => N3
              exact ⟨_, _, _, _, _, rfl, F3, N3, (fun p hp => by rw [List.mem_singleton.mp hp]; exact List.Mem.head _), (fun p hp => List.Mem.tail _ hp), (fun p hp q hq => by rw [List.mem_singleton.mp hq]; exact hoff1 p hp), ⟨_, _, _, _, _, rfl, hj⟩, fun z h1 h2 => by simp only [if_neg h1, if_neg h2]⟩
            | _ => exact hp.elim
          · have hdt : t.depth ≤ d := by
              have := depth_item hi
              simp only [Mine.T.depth] at hdp; omega
            obtain ⟨v, rfl⟩ := at_ref hat1
            k_steps
            · rename Fr _ _ _ _ => F3
              rename News _ _ _ _ => N3
              exact retS _ _ _ _ _ _ _ _ _ _ _ _ (keepH1 F3 kG' N3 (by simp) (by simp)) (News.get N3 (by k_mem)) (hj.trans (goneL_some hi (by assumption))) (News.get N3 (List.Mem.head _)) (freshH kG' N3 (List.Mem.head _) (fun q hq => by rw [List.mem_singleton.mp hq]; assumption))
            · rename Fr _ _ _ _ => F3
              rename News _ _ _ _ => N3
              exact ⟨_, _, _, _, _, rfl, F3, N3, (fun p hp => by rw [List.mem_singleton.mp hp]; exact List.Mem.head _), (fun p hp => List.Mem.tail _ hp), (fun p hp q hq => by rw [List.mem_singleton.mp hq]; exact hoff1 p hp), ⟨_, _, _, _, _, rfl, hj.trans (goneL_none hi (by assumption))⟩, fun z h1 h2 => by simp only [if_neg h1, if_neg h2]⟩
        case jd =>
          rintro nx uo ui h tk ⟨c', p', tc', tp', n', rfl, hj⟩ F2 N2
          clear F1 N1
          replace F2 : Fr g' L' h _ := F2
          replace N2 : News g' L' h _ := N2
          k_steps
          exact retN _ _ _ _ _ _ _ (keepH1 F2 kG' N2 (by simp) (by simp)) (News.get N2 (by k_mem)) (by
            rw [hj, (items_of hb hk).length, List.drop_length]; rfl)
end Mine
end F11

section F12
open PySem PySem.W PyProof.Rows PySem.Spec PySem.Calls
set_option maxHeartbeats 2000000
namespace Mine
theorem topOffF12 : True := by
  w_top off
  trivial
local macro_rules | `(tactic| k_all) => `(tactic| assumption)
local macro_rules | `(tactic| walk_at "call ref") => `(tactic| (k_here; (with_reducible show wpAny _ _ (call (Value.ref 106) _) _ _ _); (refine' level_use2 ?kx ?kt ?ks ?k1 ?k2 ?k3 ?k4 ?k5 ?k6 ?_; (case k1 => k_asm); (case k2 => k_asm); (case k5 => assumption); (case k6 => assumption); (case ks => assumption); (case kx => assumption); (case kt => assumption); (case k3 => ((try dsimp only [Ar]); omega)); (case k4 => ((try dsimp only [Ar]); omega))); intro h9 tk9 F9 N9))
local macro_rules | `(tactic| walk_at "pyIter ref") => `(tactic| (k_here; (refine' stop ?_)))
local macro_rules | `(tactic| walk_at "subscriptTail") => `(tactic| (k_here; (with_reducible show wpAny _ _ (subscriptTail _ _ (Value.ref _) (Value.int 1 _)) _ _ _); k_dflt (refine' item_base1 ?k1 ?k2 ?_ ?k4; (case k4 => with_unfolding_all rfl); (case k1 => k_asm); (case k2 => assumption); k_whole)))
local macro_rules | `(tactic| walk_at "subscriptTail") => `(tactic| (k_here; (with_reducible show wpAny _ _ (subscriptTail _ _ (Value.ref _) (Value.int 0 _)) _ _ _); k_dflt (refine' item_base0 ?k1 ?k2 ?_ ?k4; (case k4 => with_unfolding_all rfl); (case k1 => k_asm); (case k2 => assumption); k_whole)))
local macro_rules | `(tactic| walk_at "call builtin:isinstance") => `(tactic| (k_here; (with_reducible show wpAny _ _ (call _ [Value.ref _, Value.type "tuple"]) _ _ _); (refine' isi_at ?k1 ?k2 ?_; (case k1 => k_asm); (case k2 => assumption))))
local macro_rules | `(tactic| walk_at "call ref") => `(tactic| (k_here; (with_reducible show wpAny _ _ (call (Value.ref 120) _) _ _ _); (refine' gone_use ?ki ?ks ?k1 ?k2 ?k5 ?k6 ?k3 ?k4 ?k7 ?k8 ?kN ?kS; (case k1 => k_asm); (case k2 => k_asm); (case k5 => assumption); (case ks => assumption); (case ki => assumption); (case k6 => assumption); (case k7 => (intro o9; k_upd)); (case k8 => assumption); (case k3 => ((try dsimp only [Ar]); omega)); (case k4 => ((try dsimp only [Ar]); omega)); (case' kN => intro c9 p9 tc9 tp9 n9 h9 tk9 F9 N9 e9); (case' kS => intro r9 a9 k9 t19 t29 c9 p9 tc9 tp9 n9 h9 tk9 F9 N9 e9 hne9))))
theorem gone_step_some {w : World} {mean : ExcName → Option Value} {mg mb : Str → Option Value} {hR : Heap} (X : (hd.heap_39 w.params).In hR) (T : Top hd.view_39 (looseW hd.view_39 [Str.ofString "ChanError"]) mean mg mb hR) (d : Nat) (IH : GSpec w hR d) {b : Bg} {ks : Ts} {i : Int} (hlev : b.lev = some i) : GAt w hR (d + 1) (.mk b ks) := by
  intro dp un fr gd s Q E v l bd c p lv B0 B1 tc tp tl tb0 tb1 n nb st hat hdp hd hu hl hl0 hbd retN retS
  have X0 := X
  obtain ⟨a, bv, kv, na, e, ho, hn, hz, hb, hk⟩ := id hat
  subst e
  revert X; k_fill; intro X
  refine' enter [(l, listOf #[.int c tc, .int p tp] n)] X T st (hide1 hl hl0) ?k6 ?k7 ?k8 ?k9 ?kB ?h ?c2 ?c3 ?c4 ?c5
  case k6 => k_is
  case k7 => k_is
  case k8 => show dp < _; omega
  case k9 => exact BindsTo.of_eq rfl
  case kB => exact locs rfl
  case c2 => exact rfl
  case c3 => exact rfl
  case c4 => exact rfl
  case c5 => decide
  case h =>
    intro g' L' h' F' N' l1 X' T' stg kG'
    k_lt l1
    have kT := gsub_at hl kG'
    have hg : At hR g' (.mk b ks) (.ref a) := At.mono kT hat
    have hog := kT _ _ _ ho
    have hbg := kT _ _ _ hbd
    dsimp only
    (try k_unmd); (try k_fold)
    have hiss : b.lev.isSome = true := by rw [hlev]; rfl
    obtain ⟨v0, u0, ebv⟩ := lev_vals hlev hb
    have hog1 : g'.get? a = some (tupO (v0 :: .int i u0 :: kv) na) := by rw [hog, ebv]; rfl
    k_steps
    · rename Fr _ _ _ _ => F1
      rename News _ _ _ _ => N1
      rename (B0 < _) => hq1
      refine retS (true, i) _ _ _ _ _ _ _ _ _ _ _ (keepH1 F1 kG' N1 (by simp) (by simp)) (News.get N1 (by k_mem)) ?_ (News.get N1 (List.Mem.head _)) (freshH kG' N1 (List.Mem.head _) (by k_all))
      simp only [Mine.T.gone, hlev]
      simp only [gt_iff_lt, Option.isSome_none, Option.isSome_some, Option.getD_none, Option.getD_some, Bool.false_eq_true, if_false, if_true, reduceIte, Int.add_zero]
      rw [if_pos hq1]
      rfl
    · rename Fr _ _ _ _ => F1
      rename News _ _ _ _ => N1
      rename (¬ B0 < _) => hq1
      rename (B1 < _) => hq2
      have hq2' : B1 < c + 1 := hq2
      refine retS (false, i) _ _ _ _ _ _ _ _ _ _ _ (keepH1 F1 kG' N1 (by simp) (by simp)) (News.get N1 (by k_mem)) ?_ (News.get N1 (List.Mem.head _)) (freshH kG' N1 (List.Mem.head _) (by k_all))
      simp only [Mine.T.gone, hlev]
      simp only [gt_iff_lt, Option.isSome_none, Option.isSome_some, Option.getD_none, Option.getD_some, Bool.false_eq_true, if_false, if_true, reduceIte, Int.add_zero]
      rw [if_neg hq1, if_pos hq2']
      rfl
    · rename Fr _ _ _ _ => F1
      rename News _ _ _ _ => N1
      rename (¬ B0 < _) => hq1
      rename (¬ B1 < _) => hq2
      have hq2' : ¬ B1 < c + 1 := hq2
      have hun : (Mine.T.mk b ks).gone B0 B1 lv c p = goneL B0 B1 ((items b ks).drop 0) (lv + 1) (c + 1) (i) := by
        simp only [Mine.T.gone, hlev, List.drop_zero, goneL_items]
        simp only [gt_iff_lt, Option.isSome_none, Option.isSome_some, Option.getD_none, Option.getD_some, Bool.false_eq_true, if_false, if_true, reduceIte, Int.add_zero]
        rw [if_neg hq1, if_neg hq2']
      clear hq2 hq2' hq1
      refine' For_invV g' ?x1 ?x2 ?x3 ?x4 ?x5
      case x1 => exact rfl
      case x2 => exact rfl
      case x4 => intro _; exact rfl
      case x5 => passes_own
      case x3 =>
        k_steps
        refine for_tup1 (Str.ofString "told") (fun j nx => ∃ c' p' tc' tp' n', nx = [(l, listOf #[.int c' tc', .int p' tp'] n')] ∧ (Mine.T.mk b ks).gone B0 B1 lv c p = goneL B0 B1 ((items b ks).drop j) (lv + 1) c' p') rfl hog F1 (news_one N1 (by k_mem)) ⟨_, _, _, _, _, rfl, hun⟩ ?jt ?jd
        case jt =>
          rintro j v nx uo ui h tk own hv hoff ⟨c', p', tc', tp', n', rfl, hj⟩ F2 N2
          have hoff1 : ∀ q ∈ own, q.1 ≠ l := fun q hq => hoff q hq _ (List.Mem.head _)
          clear F1 N1
          (try clear F'); (try clear N')
          replace F2 : Fr g' L' h _ := F2
          replace N2 : News g' L' h _ := N2
          simp only [List.cons_append, List.nil_append] at N2
          rcases (items_of hb (AtL.mono kT hk)).get hv with ⟨hp, hi⟩ | ⟨t, hat1, hi⟩
          · rw [goneL_plain hi] at hj
            cases v with
            | str c t =>
              k_steps
              rename Fr _ _ _ _ => F3
              rename News _ _ _ _ => N3
              exact ⟨_, _, _, _, _, rfl, F3, N3, (fun p hp => by rw [List.mem_singleton.mp hp]; exact List.Mem.head _), (fun p hp => List.Mem.tail _ hp), (fun p hp q hq => by rw [List.mem_singleton.mp hq]; exact hoff1 p hp), ⟨_, _, _, _, _, rfl, hj⟩, fun z h1 h2 => by simp only [if_neg h1, if_neg h2]⟩
            | int c t =>
              k_steps
              rename Fr _ _ _ _ => F3
              rename News _ _ _ _ => N3
              exact ⟨_, _, _, _, _, rfl, F3, N3, (fun p hp => by rw [List.mem_singleton.mp hp]; exact List.Mem.head _), (fun p hp => List.Mem.tail _ hp), (fun p hp q hq => by rw [List.mem_singleton.mp hq]; exact hoff1 p hp), ⟨_, _, _, _, _, rfl, hj⟩, fun z h1 h2 => by simp only [if_neg h1, if_neg h2]⟩
            | none =>
              k_steps
              rename Fr _ _ _ _ => F3
              rename News _ _ _ _ => N3
              exact ⟨_, _, _, _, _, rfl, F3, N3, (fun p hp => by rw [List.mem_singleton.mp hp]; exact List.Mem.head _), (fun p hp => List.Mem.tail _ hp), (fun p hp q hq => by rw [List.mem_singleton.mp hq]; exact hoff1 p hp), ⟨_, _, _, _, _, rfl, hj⟩, fun z h1 h2 => by simp only [if_neg h1, if_neg h2]⟩
            | _ => exact hp.elim
          · have hdt : t.depth ≤ d := by
              have := depth_item hi
              simp only [Mine.T.depth] at hdp; omega
            obtain ⟨v, rfl⟩ := at_ref hat1
            k_steps
            · rename Fr _ _ _ _ => F3
              rename News _ _ _ _ => N3
              exact retS _ _ _ _ _ _ _ _ _ _ _ _ (keepH1 F3 kG' N3 (by simp) (by simp)) (News.get N3 (by k_mem)) (hj.trans (goneL_some hi (by assumption))) (News.get N3 (List.Mem.head _)) (freshH kG' N3 (List.Mem.head _) (fun q hq => by rw [List.mem_singleton.mp hq]; assumption))
            · rename Fr _ _ _ _ => F3
              rename News _ _ _ _ => N3
              exact ⟨_, _, _, _, _, rfl, F3, N3, (fun p hp => by rw [List.mem_singleton.mp hp]; exact List.Mem.head _), (fun p hp => List.Mem.tail _ hp), (fun p hp q hq => by rw [List.mem_singleton.mp hq]; exact hoff1 p hp), ⟨_, _, _, _, _, rfl, hj.trans (goneL_none hi (by assumption))⟩, fun z h1 h2 => by simp only [if_neg h1, if_neg h2]⟩
        case jd =>
          rintro nx uo ui h tk ⟨c', p', tc', tp', n', rfl, hj⟩ F2 N2
          clear F1 N1
          replace F2 : Fr g' L' h _ := F2
          replace N2 : News g' L' h _ := N2
          k_steps
          exact retN _ _ _ _ _ _ _ (keepH1 F2 kG' N2 (by simp) (by simp)) (News.get N2 (by k_mem)) (by
            rw [hj, (items_of hb hk).length, List.drop_length]; rfl)
theorem gone_step {w : World} {mean : ExcName → Option Value} {mg mb : Str → Option Value} {hR : Heap} (X : (hd.heap_39 w.params).In hR) (T : Top hd.view_39 (looseW hd.view_39 [Str.ofString "ChanError"]) mean mg mb hR) (d : Nat) (IH : GSpec w hR d) : GSpec w hR (d + 1) := by
  intro t
  obtain ⟨b, ks⟩ := t
  cases hlev : b.lev with
  | none => exact gone_step_none X T d IH hlev
  | some i => exact gone_step_some X T d IH hlev
theorem gone_zero {w : World} {hR : Heap} : GSpec w hR 0 := by
  intro t dp un fr gd s Q E v l bd c p lv B0 B1 tc tp tl tb0 tb1 n nb st hat hdp
  obtain ⟨b, ks⟩ := t
  simp only [T.depth] at hdp
  omega
theorem gone_ok {w : World} {mean : ExcName → Option Value} {mg mb : Str → Option Value} {hR : Heap} (X : (hd.heap_39 w.params).In hR) (T : Top hd.view_39 (looseW hd.view_39 [Str.ofString "ChanError"]) mean mg mb hR) : ∀ d, GSpec w hR d
  | 0 => gone_zero
  | d + 1 => gone_step X T d (gone_ok X T d)
end Mine
end F12

section T5
open PySem PySem.W PyProof.Rows PySem.Spec PySem.Calls
set_option maxHeartbeats 200000
namespace Mine
theorem adjust_rev (n : Nat) : Builtin.Slice.sliceAdjust none none (-1) (n : Int) = ((n : Int) - 1, -1) := by
  unfold Builtin.Slice.sliceAdjust
  first
  | rfl
  | simp
theorem places_rev (n : Nat) : Builtin.Slice.slicePlaces ((n : Int) - 1) (-1) (-1) = n := by
  unfold Builtin.Slice.slicePlaces
  have h1 : ¬ ((-1 : Int) > 0) := by omega
  simp only [h1, if_false, Int.neg_neg, Int.ediv_one]
  split <;> omega
section
variable {prog : Program} {w : World} {A : Around} {E : Value → Shared → Prop} {s : Shared}
theorem sliceApplied_rev {sl : Addr} {n : Nat} {u : Tok} {Q : Int × Int × Nat → Shared → Prop} (hs : s.heap.IsSliceOf sl .none .none (.int (-1) u)) (h : Q ((n : Int) - 1, -1, n) s) :
    wpAny (model prog w) A (Builtin.Slice.sliceApplied (.ref sl) (pure (n : Int))) Q E s := by
  obtain ⟨os, hos, hcs, hds⟩ := id hs
  unfold Builtin.Slice.sliceApplied Builtin.Slice.sliceFields
  refine wpAny_bind (wpAny_bind (wpAny_field hos hds (x := .none) rfl (wpAny_bind (wpAny_field hos hds (x := .none) rfl (wpAny_bind (wpAny_field hos hds (x := .int (-1) u) rfl (wpAny_pure ?_)))))))
  refine wpAny_bind (slicePart_int ?_)
  show wpAny _ _ (if ((-1 : Int) == 0) = true then _ else _) _ _ s
  rw [if_neg (by decide)]
  refine wpAny_bind (slicePart_none (wpAny_bind (slicePart_none (wpAny_bind (wpAny_pure ?_)))))
  show wpAny _ _ (match Builtin.Slice.sliceAdjust none none (-1) (n : Int) with | (lo, hi) => pure (lo, (-1 : Int), Builtin.Slice.slicePlaces lo hi (-1))) _ _ s
  rw [adjust_rev n]
  show wpAny _ _ (pure ((n : Int) - 1, (-1 : Int), Builtin.Slice.slicePlaces ((n : Int) - 1) (-1) (-1))) _ _ s
  rw [places_rev n]
  exact wpAny_pure h
theorem pick_rev (xs : Array Value) : ((List.range xs.size).filterMap fun (k : Nat) => xs[(((xs.size : Nat) : Int) - 1 + (k : Int) * (-1)).toNat]?).toArray = xs.toList.reverse.toArray := by
  have e : ((List.range xs.size).filterMap fun (k : Nat) => xs[(((xs.size : Nat) : Int) - 1 + (k : Int) * (-1)).toNat]?) = ((List.range xs.size).map (fun k => xs.size - 1 - k)).filterMap (fun k => xs[k]?) := by
    have c : ∀ (f : Nat → Option Value) (l : List Nat), l.filterMap f = (l.map f).filterMap id := fun f l => by rw [List.filterMap_map]; rfl
    rw [List.filterMap_map, c, c (_ ∘ _)]
    congr 1
    apply List.map_congr_left
    intro k hk
    have hk' := List.mem_range.mp hk
    have : (((xs.size : Nat) : Int) - 1 + (k : Int) * (-1)).toNat = xs.size - 1 - k := by omega
    simp only [Function.comp, this]
  rw [e, krv_range, List.filterMap_reverse, krv_all]
theorem getItem_tuple_rev {t sl : Addr} {items : Array Value} {u : Tok} {Q : Value → Shared → Prop} (ht : IsTup s.heap t items) (hs : s.heap.IsSliceOf sl .none .none (.int (-1) u))
    (h : Q (.ref s.heap.objs.size) { s with heap := s.heap.push { cls := .type "tuple", data := .seq items.toList.reverse.toArray } })
    (hsz : items.size ≤ sizeLine) : wpAny (model prog w) A (getItem (.ref t) (.ref sl)) Q E s := by
  have hdrop : sizeOk (.seq items.toList.reverse.toArray) := by
    show items.toList.reverse.toArray.size ≤ sizeLine
    simp; omega
  obtain ⟨os, hos, hcs, hds⟩ := id hs
  have hTs : s.TypeIs (.ref sl) "slice" := ⟨os, hos, hcs⟩
  unfold getItem
  try with_reducible refine wpAny_holding ?_
  first | refine wpAny_bind (wpAny_pure ?_) | skip
  refine wpAny_bind (wpAny_sequenceKey ht.typeIs (by decide) ?_)
  refine wpAny_bind (wpAny_callSpecial?_slot (name := Str.ofString "__getitem__") ht.typeIs slot_tuple_getitem
    (wpAny_call_entry slot_tuple_getitem ht.typeIs entry_tuple_getitem ?_ (args_tuple_getitem _ _)))
  show wpAny _ _ (Builtin.Tuple.tupleItemsOf (.ref t) >>= _) _ _ s
  refine wpAny_bind (tupleItemsOf_ ht ?_)
  refine wpAny_bind (wpAny_typeOf hTs ?_)
  rw [if_pos (by decide)]
  refine wpAny_bind (sliceApplied_rev hs ?_)
  have hno : ¬ ((((items.size : Nat) : Int) - 1 == 0 && (-1 : Int) == 1 && items.size == items.size) = true) := by
    have : ((-1 : Int) == 1) = false := by decide
    rw [this]; simp
  show wpAny _ _ (if (((items.size : Nat) : Int) - 1 == 0 && (-1 : Int) == 1 && items.size == items.size) = true then _ else _) _ _ s
  rw [if_neg hno, pick_rev items]
  first
    | exact wpAny_bind (m := Builtin.Tuple.tupleExact _) (wpAny_newObj_type (wpAny_pure ⟨_, rfl, wpAny_pure h⟩) hdrop)
    | exact wpAny_bind (m := Builtin.Tuple.tupleExact _) (wpAny_newObj_type (wpAny_bind (wpAny_pure (wpAny_pure ⟨_, rfl, wpAny_pure h⟩))) hdrop)
    | exact wpAny_bind (wpAny_bind (m := Builtin.Tuple.tupleExact _) (wpAny_newObj_type (wpAny_pure (wpAny_pure ⟨_, rfl, wpAny_pure h⟩)) hdrop))
    | exact wpAny_bind (wpAny_bind (m := Builtin.Tuple.tupleExact _) (wpAny_newObj_type (wpAny_pure ⟨_, rfl, wpAny_pure h⟩) hdrop))
end
section
variable {prog : Program} {w : World} {A : Around} {E : Value → Shared → Prop} {s : Shared} {h₀ : Heap} {L : Addr} {m : Str → Option Value} {news : List (Addr × Obj)}
theorem slice_tuple_rev {value slice : Expr} {t : Addr} {vs : List Value} {k : Nat} {u : Tok} {ops : List Value} {Q : Value → Shared → Prop}
    (F : Fr h₀ L s.heap m) (N : News h₀ L s.heap news) (ht : h₀.get? t = some (tupO vs k)) (hz : vs.length ≤ 1000)
    (h : ∀ D h', Fr h₀ L h' m → News h₀ L h' ((D, tupO vs.reverse 0) :: news) → (∀ p ∈ news, p.1 < D) → Q (.ref D) { s with heap := h' })
    (hs : subscripted slice false (.ref t) (.ref s.heap.objs.size) = operate ops (getItem (.ref t) (.ref s.heap.objs.size)))
    (hg : ∀ r, letTemporaryGo value (.ref t) r = pure ()) :
    wpAny (model prog w) A (subscriptTail value slice (.ref t) (.ref s.heap.objs.size)) Q E { s with heap := s.heap.push { cls := .type "slice", data := .fields #[.none, .none, .int (-1) u] } } := by
  have ht0 : IsTup s.heap t vs.toArray := ⟨_, F.keep _ _ ht, rfl, k, rfl⟩
  have ht' : IsTup (s.heap.push { cls := .type "slice", data := .fields #[.none, .none, .int (-1) u] }) t vs.toArray := ht0.keeps fun _ _ e => Heap.get?_push_of_some _ e
  refine subscriptTail_ops (s := { s with heap := s.heap.push { cls := .type "slice", data := .fields #[.none, .none, .int (-1) u] } }) ht'.typeIs slot_tuple_getitem.lookup
    (getItem_tuple_rev ht' (Heap.IsSliceOf.new ..) ?_ (by simp; rw [sizeLine_eq]; omega)) hs hg
  have N1 := News.push (F.push { cls := .type "slice", data := .fields #[.none, .none, .int (-1) u] }) (N.grown fun _ _ e => Heap.get?_push_of_some _ e) { cls := .type "tuple", data := .seq vs.reverse.toArray }
  rw [Heap.size_push] at N1
  show Q (.ref (s.heap.push _).objs.size) _
  rw [Heap.size_push]
  exact h _ _ ((F.push _).push _) N1 (fun p hp => Nat.lt_succ_of_lt (Heap.lt_size (N p hp).1))
/-- pop, of a list whose last item is known -/
theorem pop_last {D : Addr} {xs : List Value} {y : Value} {n : Nat} {nf : Obj → List (Addr × Obj)} {Q : Value → Shared → Prop} (F : Fr h₀ L s.heap m) (N : News h₀ L s.heap news) (U : ∀ o', Upd D (listOf (xs ++ [y]).toArray n) o' news (nf o')) (hz : (xs ++ [y]).length ≤ 10000)
    (h : ∀ h', Fr h₀ L h' m → News h₀ L h' (nf (listOf xs.toArray (n + 1))) → Q y { s with heap := h' }) : wpAny (model prog w) A (call (.builtin "list.pop") [.ref D]) Q E s :=
  kl_pop (its := (xs ++ [y]).toArray) (p := xs) F N (by
    have : ∀ l : List Value, kl_last (l ++ [y]) = some (l, y) := by
      intro l
      induction l with
      | nil => rfl
      | cons a r ih => cases r with
        | nil => rfl
        | cons b q => simp [kl_last] at ih ⊢; simp [ih]
    simpa using this xs) (U _) (by rw [sizeLine_eq]; simp at hz ⊢; omega) h
theorem extend_any {D b : Addr} {xs ys : List Value} {n k : Nat} {nf : Obj → List (Addr × Obj)} {Q : Value → Shared → Prop} (F : Fr h₀ L s.heap m) (N : News h₀ L s.heap news) (hb : (b, listOf ys.toArray k) ∈ news) (U : ∀ o', Upd D (listOf xs.toArray n) o' news (nf o')) (hz : xs.length + ys.length ≤ 10000)
    (h : ∀ h' n', Fr h₀ L h' m → News h₀ L h' (nf (listOf (xs ++ ys).toArray n')) → Q .none { s with heap := h' }) : wpAny (model prog w) A (call (.builtin "list.extend") [.ref D, .ref b]) Q E s := by
  have hlong : ¬(!xs.toArray.isEmpty && Builtin.List.listTooLong (xs.toArray.size + ys.toArray.size)) = true := by
    have : Builtin.List.listTooLong (xs.toArray.size + ys.toArray.size) = false := by
      unfold Builtin.List.listTooLong
      simp [sizeLine_eq]; omega
    rw [this]; simp
  cases ys with
  | nil =>
    refine kxn_extend (its := xs.toArray) (its2 := #[]) F N hb rfl (U _) hlong (by rw [sizeLine_eq]; simp at hz ⊢; omega) (by rw [sizeLine_eq]; simp at hz ⊢; omega) fun h' F' N' => h h' n F' ?_
    rw [List.append_nil]; exact N'
  | cons y ys =>
    exact kl_extend (its := xs.toArray) (its2 := (y :: ys).toArray) (l := xs ++ y :: ys) F N hb (by simp) (by simp) (U _) hlong (by rw [sizeLine_eq]; simp at hz ⊢; omega) (by rw [sizeLine_eq]; simp at hz ⊢; omega) fun h' F' N' => h h' _ F' N'
end
end Mine
end T5

section T6
open PySem PySem.W PyProof.Rows PySem.Spec PySem.Calls
set_option maxHeartbeats 200000
namespace Mine
inductive Stk (P : T × Int → Value → Prop) : List (T × Int) → List Value → Prop
  | nil : Stk P [] []
  | cons {a : T × Int} {v : Value} {as : List (T × Int)} {vs : List Value} : P a v → Stk P as vs → Stk P (a :: as) (v :: vs)
theorem Stk.append {P : T × Int → Value → Prop} {as bs : List (T × Int)} {vs ws : List Value} (h : Stk P as vs) (k : Stk P bs ws) : Stk P (as ++ bs) (vs ++ ws) := by
  induction h with
  | nil => exact k
  | cons p _ ih => exact .cons p ih
theorem Stk.reverse {P : T × Int → Value → Prop} {as : List (T × Int)} {vs : List Value} (h : Stk P as vs) : Stk P as.reverse vs.reverse := by
  induction h with
  | nil => exact .nil
  | cons p _ ih => rw [List.reverse_cons, List.reverse_cons]; exact ih.append (.cons p .nil)
theorem Stk.imp {P R : T × Int → Value → Prop} (f : ∀ a v, P a v → R a v) {as : List (T × Int)} {vs : List Value} (h : Stk P as vs) : Stk R as vs := by
  induction h with
  | nil => exact .nil
  | cons p _ ih => exact .cons (f _ _ p) ih
theorem Stk.length {P : T × Int → Value → Prop} {as : List (T × Int)} {vs : List Value} (h : Stk P as vs) : vs.length = as.length := by
  induction h <;> simp [*]
/-- a value of the stack: a fresh pair of a part and a level -/
def OnH (hR g h : Heap) (x : T × Int) (v : Value) : Prop := ∃ q c tk k, v = .ref q ∧ h.get? q = some (tupO [.ref c, .int x.2 tk] k) ∧ g.get? q = none ∧ At hR g x.1 (.ref c)
def OnL (hR g : Heap) (tr : List (Addr × Obj)) (x : T × Int) (v : Value) : Prop := ∃ q c tk k, v = .ref q ∧ (q, tupO [.ref c, .int x.2 tk] k) ∈ tr ∧ At hR g x.1 (.ref c)
theorem OnH.toL {hR g h : Heap} (x : T × Int) (v : Value) (p : OnH hR g h x v) : OnL hR g (newTups g h) x v := by
  obtain ⟨q, c, tk, k, e, h1, h2, h3⟩ := p
  exact ⟨q, c, tk, k, e, mem_newTups.mpr ⟨h1, h2, _, k, rfl⟩, h3⟩
theorem OnH.mono {hR g h h' : Heap} (kt : KeepT h h') (x : T × Int) (v : Value) (p : OnH hR g h x v) : OnH hR g h' x v := by
  obtain ⟨q, c, tk, k, e, h1, h2, h3⟩ := p
  exact ⟨q, c, tk, k, e, kt _ _ _ h1, h2, h3⟩
theorem OnL.toH {hR g h : Heap} {L : Addr} {news tr : List (Addr × Obj)} (N : News g L h news) (hs : ∀ p ∈ tr, p ∈ news) (x : T × Int) (v : Value) (p : OnL hR g tr x v) : OnH hR g h x v := by
  obtain ⟨q, c, tk, k, e, h1, h3⟩ := p
  have z := N _ (hs _ h1)
  exact ⟨q, c, tk, k, e, z.1, z.2.2, h3⟩
def weight : List (T × Int) → Nat
  | [] => 0
  | a :: r => a.1.size + weight r
theorem weight_append (a b : List (T × Int)) : weight (a ++ b) = weight a + weight b := by
  induction a with
  | nil => simp [weight]
  | cons x r ih => simp only [List.cons_append, weight, ih]; omega
theorem T.size_pos : ∀ t : T, 1 ≤ t.size
  | .mk _ _ => by simp only [T.size]; omega
theorem length_weight : ∀ a : List (T × Int), a.length ≤ weight a
  | [] => Nat.le_refl _
  | x :: r => by have := length_weight r; have := x.1.size_pos; simp only [List.length_cons, weight]; omega
def kidsAt (ks : Ts) (lv : Int) : List (T × Int) := ks.toL.map fun t => (t, lv)
theorem weight_kids (lv : Int) : ∀ ks : Ts, weight (kidsAt ks lv) = ks.size
  | .nil => rfl
  | .cons t ts => by
    have := weight_kids lv ts
    simp only [kidsAt, Ts.toL, List.map_cons, weight, Ts.size] at this ⊢
    omega
/-- the walk by a stack -/
def goneS (B0 B1 : Int) : List (T × Int) → Int → Int → Option (Bool × Int)
  | [], _, _ => none
  | (t, lv) :: r, c, p =>
    match T.gone B0 B1 t lv c p with
    | (some q, _, _) => some q
    | (none, c', p') => goneS B0 B1 r c' p'
theorem goneS_kids (B0 B1 lv : Int) (r : List (T × Int)) : ∀ (ks : Ts) (c p : Int), goneS B0 B1 (kidsAt ks lv ++ r) c p = match Ts.gone B0 B1 ks lv c p with
    | (some q, _, _) => some q
    | (none, c', p') => goneS B0 B1 r c' p'
  | .nil, c, p => rfl
  | .cons t ts, c, p => by
    have ih := goneS_kids B0 B1 lv r ts
    simp only [kidsAt, Ts.toL, List.map_cons, List.cons_append, goneS, Ts.gone] at ih ⊢
    rcases h : T.gone B0 B1 t lv c p with ⟨_ | q, c', p'⟩
    · simp only [ih]
    · rfl
theorem goneS_one (B0 B1 lv : Int) (t : T) (c p : Int) : goneS B0 B1 [(t, lv)] c p = (T.gone B0 B1 t lv c p).1 := by
  simp only [goneS]
  split <;> simp [*]
theorem goneS_levels {B0 B1 lv c p : Int} {b : Bg} {ks : Ts} {r : List (T × Int)} (h : (lv + (if b.lev.isSome then 1 else 0)) > B0) : goneS B0 B1 ((.mk b ks, lv) :: r) c p = some (true, b.lev.getD p) := by
  simp only [goneS, T.gone, if_pos h]
theorem goneS_parts {B0 B1 lv c p : Int} {b : Bg} {ks : Ts} {r : List (T × Int)} (h : ¬ (lv + (if b.lev.isSome then 1 else 0)) > B0) (h2 : c + 1 > B1) : goneS B0 B1 ((.mk b ks, lv) :: r) c p = some (false, b.lev.getD p) := by
  simp only [goneS, T.gone, if_neg h, if_pos h2]
theorem goneS_on {B0 B1 lv c p : Int} {b : Bg} {ks : Ts} {r : List (T × Int)} (h : ¬ (lv + (if b.lev.isSome then 1 else 0)) > B0) (h2 : ¬ c + 1 > B1) :
    goneS B0 B1 ((.mk b ks, lv) :: r) c p = goneS B0 B1 (kidsAt ks (lv + (if b.lev.isSome then 1 else 0)) ++ r) (c + 1) (b.lev.getD p) := by
  rw [goneS_kids]
  simp only [goneS, T.gone, if_neg h, if_neg h2]
section
variable {prog : Program} {w : World} {A : Around} {s : Shared} {E : Value → Shared → Prop} {env : Env}
/-- a comprehension over a tuple whose turns change nothing that stands -/
theorem tup_comp {elt : Expr} {ifs : List Expr} {x : Str} {scope : Scope} {cl : List (Str × Addr)} {Q : Value → Shared → Prop} {t : Addr} {vs : List Value} {k : Nat}
    (J : Nat → List Value → Heap → Prop) (hh : A.handled = none) (ht : s.heap.get? t = some (tupO vs k)) (hz : vs.length ≤ 1000) (hJ0 : J 0 [] s.heap)
    (hJ : ∀ i ys h h', J i ys h → KeepT h h' → J i ys h')
    (turn : ∀ C i v h₃ tk₃ m₃ ys E', s.heap.objs.size ≤ C → vs[i]? = some v → h₃.Ns C m₃ → m₃ x = some v → J i ys h₃ → ys.length ≤ i → (∀ b o, s.heap.get? b = some o → h₃.get? b = some o) →
      wpAny (model prog w) A (forIn ifs true fun c r => if r = true then do let ok ← isTrue c (compEnvC scope cl C env) (eval c (compEnvC scope cl C env)); pure (ForInStep.yield ok) else pure (ForInStep.yield r))
        (fun ok s₃ => Ch [] { s with heap := h₃, toks := tk₃ } s₃ ∧ if ok = true then wpAny (model prog w) A (eval elt (compEnvC scope cl C env)) (fun y s₄ => Ch [] s₃ s₄ ∧ J (i + 1) (ys ++ [y]) s₄.heap) E' s₃ else J (i + 1) ys s₃.heap)
        E' { s with heap := h₃, toks := tk₃ })
    (done : ∀ D h' tk ys, s.heap.get? D = none → h'.PlainList D ys → ys.size ≤ vs.length → J vs.length ys.toList h' → (∀ b o, s.heap.get? b = some o → h'.get? b = some o) → Q (.ref D) { s with heap := h', toks := tk }) :
    wpAny (model prog w) A (pyIter (.ref t)) (CompPkg prog w A env scope cl x ifs elt Q) E s := by
  have ht0 : s.heap.IsTuple t vs.toArray := ⟨_, ht, rfl, k, rfl⟩
  refine wpAny_pyIter_tuple ht0 ?_
  have hlt : t < s.heap.objs.size := Heap.lt_size ht
  have hne : t ≠ s.heap.objs.size := Nat.ne_of_lt hlt
  have W := Walks.tuple (prog := prog) (w := w) hh s.heap.objs.size t hne vs.toArray
  have hlen : vs.toArray.size = vs.length := by simp
  rw [hlen] at W
  have old : ∀ b o, s.heap.get? b = some o → b ∉ [s.heap.objs.size] := fun b o e hm => by rw [List.mem_singleton.mp hm] at e; exact Nat.lt_irrefl _ (Heap.lt_size e)
  refine ⟨s.heap.objs.size, [s.heap.objs.size, t], [s.heap.objs.size], [], vs.length, _, _, J, rfl, W, ?_, ?_, ?_, ?_, ?_, ?_, ?_, ?_, ?_⟩
  · rw [sizeLine_eq]; omega
  · exact ⟨⟨_, Heap.get?_push_size _ rfl, rfl, rfl⟩, ht0.at fun o e => Heap.get?_push_of_some _ e⟩
  · intro b hb
    show b < (s.heap.push _).objs.size
    rw [Heap.size_push]
    rcases List.mem_cons.mp hb with rfl | hb
    · exact Nat.lt_succ_self _
    · rw [List.mem_singleton.mp hb]; exact Nat.lt_succ_of_lt hlt
  · intro b hb; cases hb
  · exact hJ _ _ _ _ hJ0 (KeepT.of_keep fun b o e => Heap.get?_push_of_some _ e)
  · intro i h st b hb vs' k' e
    rw [List.mem_singleton.mp hb] at e
    obtain ⟨o, ho, hc, _⟩ := st.1
    rw [ho] at e
    rw [Option.some.inj e] at hc
    simp at hc
  · intro i ys h h' j hk ht
    exact hJ i ys h h' j ht
  · intro C i v h₃ tk₃ m₃ ys E' hC hi hP hn hm hj hys hk hsz3
    have hC' : s.heap.objs.size ≤ C := Nat.le_of_succ_le (by simpa [Heap.size_push] using hC)
    exact turn C i v h₃ tk₃ m₃ ys E' hC' (by simpa using hP) hn hm hj hys fun b o e => hk b o (old b o e) (fun hm => nomatch hm) (Heap.get?_push_of_some _ e)
  · intro D h' tk ys hD hl' hys hj hk
    refine done D h' tk ys ?_ hl' hys hj fun b o e => hk b o (old b o e) (fun hm => nomatch hm) (Heap.get?_push_of_some _ e)
    cases e : s.heap.get? D with
    | none => rfl
    | some o => have := Heap.get?_push_of_some { cls := .type "tuple_iterator", data := .fields #[.ref t, .int 0 0] } e; rw [this] at hD; cases hD
end
def WTurn (h₀ : Heap) (L : Addr) (s : Shared) (m₀ : Str → Option Value) (x u y1 y2 : Str) (P : Nat → Int → Int → List (Addr × Obj) → Prop) (n : Nat) (fl : Flow) (s₃ : Shared) : Prop :=
  fl = .next ∧ ∃ h' tk m' nx news' n' a b, s₃ = { s with heap := h', toks := tk } ∧ Fr h₀ L h' m' ∧ News h₀ L h' news' ∧ (∀ p ∈ nx, p ∈ news') ∧ n' < n ∧ P n' a b nx ∧ Keeps2 m₀ x u y1 y2 a b m'
theorem While_two {prog : Program} {w : World} {A : Around} {E : Value → Shared → Prop} {Q : Flow → Shared → Prop} {s : Shared} {env : Env} {h₀ : Heap} {L D : Addr} {test : Expr} {body : List Stmt} {pos : Pos} {m₀ : Str → Option Value} {news : List (Addr × Obj)} {n₀ : Nat} {a0 b0 : Int} (x u y1 y2 z : Str) (P : Addr → Nat → Int → Int → List (Addr × Obj) → Prop)
    (F : Fr h₀ L s.heap m₀) (N : News h₀ L s.heap news) (hz : m₀ z = some (.ref D)) (hk : Keeps2 m₀ x u y1 y2 a0 b0 m₀) (hj : ∃ nx, (∀ p ∈ nx, p ∈ news) ∧ P D n₀ a0 b0 nx)
    (turn : ∀ n a b nx uo ui lt pt h₁ tk₁, P D n a b nx → Fr h₀ L h₁ (fun z => if z = y1 then some (.int a lt) else if z = y2 then some (.int b pt) else if z = x then uo else if z = u then ui else m₀ z) → News h₀ L h₁ nx →
      wpAny (model prog w) A (isTrue test env (eval test env)) (fun b s₂ =>
        if b = true then wpAny (model prog w) A (execs body env) (WTurn h₀ L s m₀ x u y1 y2 (P D) n) E s₂ else Q .next s₂) E { s with heap := h₁, toks := tk₁ })
    (hE : PassesOwn (model prog w) A env E := by passes_own) :
    wpAny (model prog w) A (exec (.While test body [] pos) env) Q E s := by
  obtain ⟨nx0, hn0, hj⟩ := hj
  refine While_inv2 (n₀ := n₀) (fun n m nx => ∃ a b, P D n a b nx ∧ Keeps2 m₀ x u y1 y2 a b m) F (fun p hp => N p (hn0 p hp)) ⟨a0, b0, hj, hk⟩ ?_ hE
  rintro n m₁ nx h₁ tk₁ F1 N1 ⟨a, b, hp, ⟨lt, hm1⟩, ⟨pt, hm2⟩, hm3⟩
  rw [map2 hm1 hm2 hm3] at F1
  refine wpAny_mono (turn n a b nx _ _ lt pt h₁ tk₁ hp F1 N1) (fun bb s₂ h₂ => ?_) fun _ _ e => e
  cases bb with
  | false =>
    simp only [Bool.false_eq_true, if_false] at h₂ ⊢
    exact h₂
  | true =>
    simp only [if_true] at h₂ ⊢
    refine wpAny_mono h₂ (fun f s₃ h₃ => ?_) fun _ _ e => e
    obtain ⟨rfl, h', tk, m', nx', news', n', a', b', e, F', N', hs, hn, hP, hK⟩ := h₃
    subst e
    exact ⟨h', tk, m', nx', n', rfl, F', fun p hp => N' p (hs p hp), hn, a', b', hP, hK⟩
section
variable {prog : Program} {w : World} {A : Around} {E : Value → Shared → Prop} {s : Shared} {h₀ : Heap} {L a b : Addr} {news : List (Addr × Obj)} {xs : List Value} {v : Value} {n k : Nat}
theorem ne_snoc {Q : Value → Shared → Prop} (N : News h₀ L s.heap news) (ha : (a, listOf (xs ++ [v]).toArray n) ∈ news) (hb : (b, listOf #[] k) ∈ news) (hu : A.units < cLine) (h : Q (.bool true) s) :
    wpAny (model prog w) A (compareOp .NotEq (.ref a) (.ref b)) Q E s :=
  SeqAt.RcNeAt.lists_lengths (items := (xs ++ [v]).toArray) (items2 := #[]) ⟨_, (N _ ha).1, rfl, n, rfl⟩ ⟨_, (N _ hb).1, rfl, k, rfl⟩ (by simp) hu prog w E Q h
theorem ne_nil' {Q : Value → Shared → Prop} (N : News h₀ L s.heap news) (ha : (a, listOf #[] n) ∈ news) (hb : (b, listOf #[] k) ∈ news) (hu : A.units < cLine) (h : Q (.bool false) s) :
    wpAny (model prog w) A (compareOp .NotEq (.ref a) (.ref b)) Q E s :=
  SeqAt.RcNeAt.lists (items := #[]) (items2 := #[]) (e := fun _ => true) ⟨_, (N _ ha).1, rfl, n, rfl⟩ ⟨_, (N _ hb).1, rfl, k, rfl⟩ rfl hu (fun j h1 h2 => absurd h1 (Nat.not_lt_zero _)) prog w E Q h
end
theorem news_turn {g h h₃ : Heap} {L C : Addr} {news : List (Addr × Obj)} (N : News g L h news) (hC : h.objs.size ≤ C) (hk : ∀ b o, h.get? b = some o → h₃.get? b = some o) : News g C h₃ news := fun p hp =>
  ⟨hk _ _ (N p hp).1, Nat.ne_of_lt (Nat.lt_of_lt_of_le (Heap.lt_size (N p hp).1) hC), (N p hp).2.2⟩
end Mine
end T6

section T7
open PySem PySem.W PyProof.Rows PySem.Spec PySem.Calls
set_option maxHeartbeats 200000
namespace Mine
def PredC (hR g : Heap) (c1 : Addr) (res : Option (Bool × Int)) (B0 B1 : Int) (D : Addr) (n : Nat) (c p : Int) (nx : List (Addr × Obj)) : Prop :=
  ∃ st qs k oc cv tr, nx = (D, listOf qs.reverse.toArray k) :: (c1, oc) :: tr ∧ oc.data = .cell cv ∧ (∀ p ∈ tr, p.1 ≠ D) ∧ (∀ p ∈ tr, p.1 ≠ c1) ∧ @Ne Nat D c1 ∧ Stk (OnL hR g tr) st qs ∧ n = weight st ∧ n ≤ 10000 ∧ res = goneS B0 B1 st c p
theorem PredC.start {hR g : Heap} {c1 D q a : Addr} {B0 B1 : Int} {t : T} {oc : Obj} {cv : Option Value} {k k1 : Nat} {tk : Tok} {r : List (Addr × Obj)} (hoc : oc.data = .cell cv) (hqD : @Ne Nat q D) (hqc : @Ne Nat q c1) (hDc : @Ne Nat D c1) (hat : At hR g t (.ref a)) (hsz : t.size ≤ 10000) :
    ∃ nx, (∀ p ∈ nx, p ∈ (D, listOf [Value.ref q].toArray k) :: (q, tupO [.ref a, .int 0 tk] k1) :: (c1, oc) :: r) ∧ PredC hR g c1 (t.gone B0 B1 0 0 0).1 B0 B1 D t.size 0 0 nx := by
  refine ⟨[(D, listOf [Value.ref q].reverse.toArray k), (c1, oc), (q, tupO [.ref a, .int 0 tk] k1)], ?_, [(t, 0)], [.ref q], k, oc, cv, [(q, tupO [.ref a, .int 0 tk] k1)], rfl, hoc, ?_, ?_, hDc, ?_, ?_, hsz, ?_⟩
  · intro p hp
    simp only [List.mem_cons, List.mem_nil_iff, or_false] at hp
    rcases hp with rfl | rfl | rfl
    · exact List.Mem.head _
    · exact List.Mem.tail _ (List.Mem.tail _ (List.Mem.head _))
    · exact List.Mem.tail _ (List.Mem.head _)
  · intro p hp; rw [List.mem_singleton.mp hp]; exact hqD
  · intro p hp; rw [List.mem_singleton.mp hp]; exact hqc
  · exact .cons ⟨q, a, tk, k1, rfl, List.Mem.head _, hat⟩ .nil
  · simp [weight]
  · rw [goneS_one]
theorem PredC.next {hR g h : Heap} {c1 D : Addr} {res : Option (Bool × Int)} {B0 B1 c p lv : Int} {n k : Nat} {ks : Ts} {st : List (T × Int)} {qs ys : List Value} {oc : Obj} {cv : Option Value} {tr : List (Addr × Obj)}
    (hoc : oc.data = .cell cv) (h1 : ∀ p ∈ tr, p.1 ≠ D) (h2 : ∀ p ∈ tr, p.1 ≠ c1) (h3 : @Ne Nat D c1) (htr : newTups g h = tr) (hys : Stk (OnH hR g h) (kidsAt ks lv).reverse ys) (hqs : Stk (OnH hR g h) st qs)
    (hn : n = weight (kidsAt ks lv ++ st)) (hn2 : n ≤ 10000) (hres : res = goneS B0 B1 (kidsAt ks lv ++ st) c p) : PredC hR g c1 res B0 B1 D n c p ((D, listOf (qs.reverse ++ ys).toArray k) :: (c1, oc) :: tr) := by
  subst htr
  refine ⟨kidsAt ks lv ++ st, ys.reverse ++ qs, k, oc, cv, _, ?_, hoc, h1, h2, h3, ?_, hn, hn2, hres⟩
  · rw [List.reverse_append, List.reverse_reverse]
  · have z := hys.reverse
    rw [List.reverse_reverse] at z
    exact (z.append hqs).imp OnH.toL
theorem newTups_ne' {g h : Heap} {l : Addr} {o : Obj} {cv : Option Value} (hl : h.get? l = some o) (hc : o.data = .cell cv) : ∀ p ∈ newTups g h, p.1 ≠ l := by
  intro p hp e
  obtain ⟨h1, _, vs, n, h2⟩ := mem_newTups.mp hp
  rw [e, hl] at h1
  rw [Option.some.inj h1, h2] at hc
  cases hc
theorem Items.append {hR h : Heap} {vs ws : List Value} {a b : List (Option T)} (p : Items hR h vs a) (q : Items hR h ws b) : Items hR h (vs ++ ws) (a ++ b) := by
  induction p with
  | nil => exact q
  | plain x _ ih => exact .plain x ih
  | part x _ ih => exact .part x ih
theorem Items.reverse {hR h : Heap} {vs : List Value} {a : List (Option T)} (p : Items hR h vs a) : Items hR h vs.reverse a.reverse := by
  induction p with
  | nil => exact .nil
  | plain x _ ih => rw [List.reverse_cons, List.reverse_cons]; exact ih.append (.plain x .nil)
  | part x _ ih => rw [List.reverse_cons, List.reverse_cons]; exact ih.append (.part x .nil)
/-- the parts among the first items, each with its level -/
def firsts (its : List (Option T)) (lv : Int) (i : Nat) : List (T × Int) := ((its.take i).filterMap id).map fun t => (t, lv)
theorem firsts_none {its : List (Option T)} {lv : Int} {i : Nat} (h : its[i]? = some none) : firsts its lv (i + 1) = firsts its lv i := by
  simp [firsts, List.take_add_one, h, List.filterMap_append]
theorem firsts_some {its : List (Option T)} {lv : Int} {i : Nat} {t : T} (h : its[i]? = some (some t)) : firsts its lv (i + 1) = firsts its lv i ++ [(t, lv)] := by
  simp [firsts, List.take_add_one, h, List.filterMap_append]
theorem firsts_all (b : Bg) (ks : Ts) (lv : Int) (n : Nat) (hn : (items b ks).length ≤ n) : firsts (items b ks).reverse lv n = (kidsAt ks lv).reverse := by
  unfold firsts kidsAt
  rw [List.take_of_length_le (by simpa using hn), List.filterMap_reverse, List.map_reverse]
  congr 1
  unfold items
  rw [List.filterMap_append]
  have : ∀ l : List T, (l.map some).filterMap id = l := fun l => by
    induction l with
    | nil => rfl
    | cons a r ih => simp [ih]
  rw [this]
  cases b <;> rfl
section
variable {prog : Program} {w : World} {A : Around} {s : Shared} {E : Value → Shared → Prop} {env : Env}
def CEnd (s₃ : Shared) (J1 : Value → Heap → Prop) (y : Value) (s₄ : Shared) : Prop := Ch [] s₃ s₄ ∧ J1 y s₄.heap
def CTurn (prog : Program) (w : World) (A : Around) (elt : Expr) (cenv : Env) (E' : Value → Shared → Prop) (s0 : Shared) (J0 : Heap → Prop) (J1 : Value → Heap → Prop) (ok : Bool) (s₃ : Shared) : Prop :=
  Ch [] s0 s₃ ∧ if ok = true then wpAny (model prog w) A (eval elt cenv) (CEnd s₃ J1) E' s₃ else J0 s₃.heap
theorem tup_comp1 {elt cond : Expr} {x : Str} {scope : Scope} {cl : List (Str × Addr)} {Q : Value → Shared → Prop} {t : Addr} {vs : List Value} {k : Nat}
    (J : Nat → List Value → Heap → Prop) (hh : A.handled = none) (ht : s.heap.get? t = some (tupO vs k)) (hz : vs.length ≤ 1000) (hJ0 : J 0 [] s.heap)
    (hJ : ∀ i ys h h', J i ys h → KeepT h h' → J i ys h')
    (turn : ∀ C i v h₃ tk₃ m₃ ys E', s.heap.objs.size ≤ C → vs[i]? = some v → h₃.Ns C m₃ → m₃ x = some v → J i ys h₃ → ys.length ≤ i → (∀ b o, s.heap.get? b = some o → h₃.get? b = some o) →
      wpAny (model prog w) A (isTrue cond (compEnvC scope cl C env) (eval cond (compEnvC scope cl C env))) (CTurn prog w A elt (compEnvC scope cl C env) E' { s with heap := h₃, toks := tk₃ } (J (i + 1) ys) (fun y => J (i + 1) (ys ++ [y]))) E' { s with heap := h₃, toks := tk₃ })
    (done : ∀ D h' tk ys, s.heap.get? D = none → h'.PlainList D ys → ys.size ≤ vs.length → J vs.length ys.toList h' → (∀ b o, s.heap.get? b = some o → h'.get? b = some o) → Q (.ref D) { s with heap := h', toks := tk }) :
    wpAny (model prog w) A (pyIter (.ref t)) (CompPkg prog w A env scope cl x [cond] elt Q) E s := by
  refine tup_comp J hh ht hz hJ0 hJ ?_ done
  intro C i v h₃ tk₃ m₃ ys E' hC hv hn hm hj hys hk
  have z := turn C i v h₃ tk₃ m₃ ys E' hC hv hn hm hj hys hk
  simp only [List.forIn_cons, List.forIn_nil, if_true]
  refine wpAny_bind (wpAny_bind (wpAny_mono z (fun ok s₃ h => ?_) fun _ _ e => e))
  exact wpAny_pure (wpAny_pure h)
end
theorem news_tl {g h : Heap} {L : Addr} {p : Addr × Obj} {r : List (Addr × Obj)} (N : News g L h (p :: r)) : News g L h r := fun q hq => N q (List.Mem.tail _ hq)
theorem newTup_K3 {M : Model} {A : Around} {E : Value → Shared → Prop} {s : Shared} {h₀ : Heap} {L : Addr} {m : Str → Option Value} {news : List (Addr × Obj)} {vs : List Value} {Q : Value → Shared → Prop} (F : Fr h₀ L s.heap m) (N : News h₀ L s.heap news)
    (h : ∀ D h', Fr h₀ L h' m → News h₀ L h' ((D, tupO vs 0) :: news) → (∀ p ∈ news, p.1 < D) → (∀ b o, s.heap.get? b = some o → h'.get? b = some o) → Q (.ref D) { s with heap := h' }) (hz : vs.length ≤ sizeLine) : wpAny M A (newTuple vs) Q E s :=
  newTuple_NK F N (fun h' F' N' kp => h _ h' F' N' (fun p hp => Heap.lt_size (N p hp).1) kp) hz
/-- the ledger behind check_levels' comprehension -/
theorem news_gd {g h0 h' : Heap} {L D2 : Addr} {m : Str → Option Value} {news : List (Addr × Obj)} {od : Obj} {p1 p2 : Addr × Obj} (F : Fr g L h0 m) (F4 : Fr g L h' m) (N4 : News g L h' news) (hD2 : h0.get? D2 = none) (hpl : h'.get? D2 = some od) (h1 : p1 ∈ news) (h2 : p2 ∈ news) :
    News g L h' ((D2, od) :: p1 :: p2 :: newTups g h') := by
  refine news_tups (news := [(D2, od), p1, p2]) F4 ?_
  intro p hp
  simp only [List.mem_cons, List.mem_nil_iff, or_false] at hp
  rcases hp with rfl | rfl | rfl
  · refine ⟨hpl, fun q => ?_, ?_⟩
    · obtain ⟨oL, _, _, hoL, _⟩ := F.ns
      simp only at q
      rw [q, hoL] at hD2; cases hD2
    · cases q : g.get? D2 with
      | none => rfl
      | some o => have := F.keep _ _ q; rw [this] at hD2; cases hD2
  · exact N4 _ h1
  · exact N4 _ h2
theorem news_gd2 {g h0 h' : Heap} {L D2 l c : Addr} {m m' : Str → Option Value} {news : List (Addr × Obj)} {oc : Obj} {cv : Option Value} {xs : Array Value} {ysl : List Value} {k ln : Nat} (F : Fr g L h0 m) (N : News g L h0 news) (F4 : Fr g L h' m') (N4 : News g L h' news)
    (hD2 : h0.get? D2 = none) (hpl : h'.get? D2 = some (listOf ysl.toArray ln)) (h1 : (l, listOf xs k) ∈ news) (h2 : (c, oc) ∈ news) (hoc : oc.data = .cell cv) :
    ∃ tr, newTups g h' = tr ∧ News g L h' ((D2, listOf ysl.toArray ln) :: (l, listOf xs k) :: (c, oc) :: tr) ∧ (∀ p ∈ tr, p.1 ≠ l) ∧ (∀ p ∈ tr, p.1 ≠ c) ∧ @Ne Nat D2 l ∧ @Ne Nat D2 c := by
  refine ⟨_, rfl, ?_, newTups_ne (N4 _ h1).1 (by simp), newTups_ne' (N4 _ h2).1 hoc, fun q => ?_, fun q => ?_⟩
  · refine news_tups (news := [(D2, listOf ysl.toArray ln), (l, listOf xs k), (c, oc)]) F4 ?_
    intro p hp
    simp only [List.mem_cons, List.mem_nil_iff, or_false] at hp
    rcases hp with rfl | rfl | rfl
    · refine ⟨hpl, fun q => ?_, ?_⟩
      · obtain ⟨oL, _, _, hoL, _⟩ := F.ns
        simp only at q
        rw [q, hoL] at hD2; cases hD2
      · cases q : g.get? D2 with
        | none => rfl
        | some o => have := F.keep _ _ q; rw [this] at hD2; cases hD2
    · exact N4 _ h1
    · exact N4 _ h2
  · have z := (N _ h1).1; simp only at z; rw [← q, hD2] at z; cases z
  · have z := (N _ h2).1; simp only at z; rw [← q, hD2] at z; cases z
theorem goneS_on0 {B0 B1 lv c p : Int} {b : Bg} {ks : Ts} {r : List (T × Int)} (hl : b.lev = none) (h : ¬ B0 < lv) (h2 : ¬ B1 < c + 1) : goneS B0 B1 ((.mk b ks, lv) :: r) c p = goneS B0 B1 (kidsAt ks lv ++ r) (c + 1) p := by
  have z := goneS_on (B0 := B0) (B1 := B1) (lv := lv) (c := c) (p := p) (b := b) (ks := ks) (r := r) (by rw [hl]; simpa using h) h2
  rw [hl] at z; simpa using z
theorem goneS_on1 {B0 B1 lv c p i : Int} {b : Bg} {ks : Ts} {r : List (T × Int)} (hl : b.lev = some i) (h : ¬ B0 < lv + 1) (h2 : ¬ B1 < c + 1) : goneS B0 B1 ((.mk b ks, lv) :: r) c p = goneS B0 B1 (kidsAt ks (lv + 1) ++ r) (c + 1) i := by
  have z := goneS_on (B0 := B0) (B1 := B1) (lv := lv) (c := c) (p := p) (b := b) (ks := ks) (r := r) (by rw [hl]; simpa using h) h2
  rw [hl] at z; simpa using z
theorem goneS_lev0 {B0 B1 lv c p : Int} {b : Bg} {ks : Ts} {r : List (T × Int)} (hl : b.lev = none) (h : B0 < lv) : goneS B0 B1 ((.mk b ks, lv) :: r) c p = some (true, p) := by
  have z := goneS_levels (B0 := B0) (B1 := B1) (lv := lv) (c := c) (p := p) (b := b) (ks := ks) (r := r) (by rw [hl]; simpa using h)
  rw [hl] at z; simpa using z
theorem goneS_lev1 {B0 B1 lv c p i : Int} {b : Bg} {ks : Ts} {r : List (T × Int)} (hl : b.lev = some i) (h : B0 < lv + 1) : goneS B0 B1 ((.mk b ks, lv) :: r) c p = some (true, i) := by
  have z := goneS_levels (B0 := B0) (B1 := B1) (lv := lv) (c := c) (p := p) (b := b) (ks := ks) (r := r) (by rw [hl]; simpa using h)
  rw [hl] at z; simpa using z
theorem goneS_par0 {B0 B1 lv c p : Int} {b : Bg} {ks : Ts} {r : List (T × Int)} (hl : b.lev = none) (h : ¬ B0 < lv) (h2 : B1 < c + 1) : goneS B0 B1 ((.mk b ks, lv) :: r) c p = some (false, p) := by
  have z := goneS_parts (B0 := B0) (B1 := B1) (lv := lv) (c := c) (p := p) (b := b) (ks := ks) (r := r) (by rw [hl]; simpa using h) h2
  rw [hl] at z; simpa using z
theorem goneS_par1 {B0 B1 lv c p i : Int} {b : Bg} {ks : Ts} {r : List (T × Int)} (hl : b.lev = some i) (h : ¬ B0 < lv + 1) (h2 : B1 < c + 1) : goneS B0 B1 ((.mk b ks, lv) :: r) c p = some (false, i) := by
  have z := goneS_parts (B0 := B0) (B1 := B1) (lv := lv) (c := c) (p := p) (b := b) (ks := ks) (r := r) (by rw [hl]; simpa using h) h2
  rw [hl] at z; simpa using z
theorem weight_next {b : Bg} {ks : Ts} {lv lv' : Int} {st : List (T × Int)} {n : Nat} (hn : n = weight ((.mk b ks, lv) :: st)) : weight (kidsAt ks lv' ++ st) < n := by
  rw [hn, weight_append, weight_kids]
  simp only [weight, T.size]; omega
theorem sz_next {P R : T × Int → Value → Prop} {b : Bg} {ks : Ts} {lv lv' : Int} {st : List (T × Int)} {qs ys : List Value} {n : Nat} (hn : n = weight ((.mk b ks, lv) :: st)) (hn2 : n ≤ 10000) (hs : Stk P st qs) (hy : Stk R (kidsAt ks lv').reverse ys) :
    qs.reverse.length + ys.length ≤ 10000 := by
  have h1 := length_weight st
  have h2 := length_weight (kidsAt ks lv')
  have h3 := weight_kids lv' ks
  rw [List.length_reverse, hs.length, hy.length, List.length_reverse]
  simp only [weight, T.size] at hn
  omega
theorem wt_next {b : Bg} {ks : Ts} {lv lv' : Int} {st : List (T × Int)} {n : Nat} (hn : n = weight ((.mk b ks, lv) :: st)) (hn2 : n ≤ 10000) : weight (kidsAt ks lv' ++ st) ≤ 10000 :=
  Nat.le_trans (Nat.le_of_lt (weight_next hn)) hn2
end Mine
end T7

section R1
open PySem PySem.W PyProof.Rows PySem.Spec PySem.Calls Builtin Builtin.ObjectAttr
set_option maxHeartbeats 2000000
namespace Mine
abbrev excO (dd : Option Addr) (t : Addr) : Obj := { cls := .ref 45, dict := dd, data := .fields #[.ref t, .none, .none, .none, .bool false, .none] }
section
variable {P : Params} {S : Setting}
theorem gf_made : peek (hd.heap_39 P) S (Bind.madeBy (.ref 45)) = some (some "Exception.__new__") := by kernel_rfl
theorem gf_base : peek (hd.heap_39 P) S (Bind.staticBase (.ref 45)) = some (.ref 45) := by kernel_rfl
theorem gf_mro : peek (hd.heap_39 P) S (mroOf (.ref 45)) = some [.ref 45, .ref 32, .type "Exception", .type "BaseException", .type "object"] := by kernel_rfl
theorem gf_init : findIn (hd.heap_39 P) (.ref 45) "__init__" = some (some (.ref 29)) := by kernel_rfl
theorem gf_exc : subIn (hd.heap_39 P) (.ref 45) (.type "Exception") = some true := by kernel_rfl
theorem gf_bexc : subIn (hd.heap_39 P) (.ref 45) (.type "BaseException") = some true := by kernel_rfl
theorem gf_self : subIn (hd.heap_39 P) (.ref 45) (.ref 45) = some true := by kernel_rfl
theorem gf_obj : subIn (hd.heap_39 P) (.ref 45) (.type "object") = some true := by kernel_rfl
theorem gf_noattr : subIn (hd.heap_39 P) (.ref 45) (.type "AttributeError") = some false := by kernel_rfl
theorem gf_noname : subIn (hd.heap_39 P) (.ref 45) (.type "NameError") = some false := by kernel_rfl
theorem gf_ga : findIn (hd.heap_39 P) (.ref 45) "__getattribute__" = some (some (.builtin "BaseException.__getattribute__")) := by kernel_rfl
theorem gf_gh : findIn (hd.heap_39 P) (.ref 45) "__getattr__" = some none := by kernel_rfl
theorem gf_sa : findIn (hd.heap_39 P) (.ref 45) "__setattr__" = some (some (.builtin "object.__setattr__")) := by kernel_rfl
theorem gf_fn : typeIn (hd.heap_39 P) (.ref 29) = some (.type "function") := by kernel_rfl
theorem gf_msg : findIn (hd.heap_39 P) (.ref 45) "message" = some none := by kernel_rfl
theorem gf_spot : findIn (hd.heap_39 P) (.ref 45) "spot" = some none := by kernel_rfl
theorem gf_hasDict : (clsIn (hd.heap_39 P) 45).any (·.hasDict) = true := by kernel_rfl
end
/-- an exception of the class, with its own dict or none yet -/
def XSt (h : Heap) (e t : Addr) (dd : Option Addr) (mA : Str → Option Value) : Prop :=
  h.get? e = some (excO dd t) ∧ match dd with
    | none => ∀ n, mA n = none
    | some d => d ≠ e ∧ h.Ns1 d mA
theorem XSt.inst {h : Heap} {e t : Addr} {dd : Option Addr} {mA : Str → Option Value} (x : XSt h e t dd mA) : ∃ od, InstAt h e (excO dd t) 45 od := by
  obtain ⟨he, hd⟩ := x
  cases dd with
  | none => exact ⟨none, he, rfl, rfl, trivial⟩
  | some d => obtain ⟨_, o, es, ep, ho, _⟩ := hd; exact ⟨some o, he, rfl, rfl, ho⟩
section
variable {prog : Program} {w : World} {A : Around} {E : Value → Shared → Prop}
theorem store_dict {s : Shared} {d : Addr} {mA : Str → Option Value} {name : Str} {tk : Tok} {v : Value} {ns : List Str} {Q : Fin → Shared → Prop} (hns : s.heap.Ns1 d mA) (hw : Within mA ns) (hz : ns.length ≤ 10)
    (h : ∀ h', h'.Ns1 d (fun y => if y = name then some v else mA y) → Heap.SameBut d s.heap h' → Q (.done (.ret .none)) { s with heap := h', toks := s.toks + 1 }) :
    wpAny (model prog w) A (storeInDict d (.str name tk) name v) Q E s := by
  unfold storeInDict newKeyGuard
  refine wpAny_bind (wpAny_pure (wpAny_bind (wpAny_nsSet1 hns fun h' hn' hs => ?_)))
  obtain ⟨o, es, ep, ho, hd, hc⟩ := hn'.count (Within.cons name v hw)
  refine wpAny_bind (wpAny_lookBehind ho (by rw [hd]; exact pastItsLine_dict (Nat.le_trans hc (by rw [List.length_cons, sizeLine_eq]; omega))) ?_)
  exact wpAny_pure (h h' hn' hs)
theorem set_exc {s : Shared} {e t : Addr} {dd : Option Addr} {mA : Str → Option Value} {name : Str} {v : Value} {ns : List Str} {Q : Unit → Shared → Prop} (X : (hd.heap_39 w.params).In s.heap) (x : XSt s.heap e t dd mA)
    (hf : findIn (hd.heap_39 w.params) (.ref 45) name = some none) (hw : Within mA ns) (hz : ns.length ≤ 10)
    (h : ∀ h' d tk', XSt h' e t (some d) (fun y => if y = name then some v else mA y) → (∀ b o, b ≠ e → some b ≠ dd → s.heap.get? b = some o → h'.get? b = some o) → ((∀ d₀, dd = some d₀ → d = d₀) ∧ (dd = none → s.heap.get? d = none)) → Q () { s with heap := h', toks := tk' }) :
    wpAny (model prog w) A (setAttr (.ref e) name v) Q E s := by
  obtain ⟨od, I⟩ := x.inst
  refine set_plain X I gf_sa ?_
  have SF := PySem.F.store_Exception
  have sub : Looks (model prog w) s.heap (isInstance (.ref e) (.type "object")) true := I.type.andThen (looks_subIn X gf_obj)
  refine codeAny_call_builtin SF.slot.plain SF.entry (@check_slot (model prog w) _ _ { s with toks := s.toks + 1 } "object.__setattr__" "object" "__setattr__" (.ref e) [.str name s.toks, v] [] _ SF.kind SF.split sub (SF.args (.ref e) (.str name s.toks) v) ?_)
  have hm : Looks (model prog w) s.heap (mroOf (.ref 45)) _ := Looks.of_peek X gf_mro
  have hc : Looks (model prog w) s.heap (typeLookup (.ref 45) name) none := looks_findIn X hf
  rw [osa_eq, refuse_eq]
  refine wpAny_bind (wpAny_bind (I.type.at (wpAny_bind (hm.at ?_))))
  rw [refuseLoop_ref, refuseLoop_ref, SF.passes]
  refine wpAny_pure (wpAny_bind (I.type.at (wpAny_bind (hc.at (wpAny_bind (wpAny_pure ?_))))))
  show wpAny _ _ (storeInOwnDict (.ref e) (.ref 45) (.str name s.toks) name v false) _ _ _
  obtain ⟨cd, hcd, hdd⟩ := any_some (gf_hasDict (P := w.params))
  have L := looks_clsIn (M := model prog w) X hcd
  obtain ⟨hx, hd⟩ := x
  unfold storeInOwnDict
  refine wpAny_bind (wpAny_pure (wpAny_bind ?_))

  cases dd with
  | none =>
    show wpAny _ _ (instanceDict e true) _ _ _
    unfold instanceDict
    refine wpAny_bind (wpAny_loadPart hx ?_)
    show wpAny _ _ (classData 45 >>= _) _ _ _
    refine wpAny_bind (L.at ?_)
    rw [hdd]
    have hx₁ : (s.heap.push { cls := .type "dict", data := .dict #[] }).get? e = some (excO none t) := Heap.get?_push_of_some _ hx
    have hes : e ≠ s.heap.objs.size := Nat.ne_of_lt (Heap.lt_size hx)
    show wpAny _ _ (alloc { cls := Value.type "dict", data := Data.dict #[] } >>= fun d => update e (fun o => { o with dict := some d }) >>= fun _ => dictMade (Value.ref 45) e d) _ _ _
    refine wpAny_bind (wpAny_alloc' (wpAny_bind (wpAny_update' hx₁ (wpAny_pure ?_))))
    have hgd : ((s.heap.push { cls := .type "dict", data := .dict #[] }).update e fun o => { o with dict := some s.heap.objs.size }).get? s.heap.objs.size = some { cls := .type "dict", data := .dict #[] } :=
      (Heap.get?_update_ne _ _ _ _ hes.symm).trans (Heap.get?_push_at rfl rfl)
    have hnd : ((s.heap.push { cls := .type "dict", data := .dict #[] }).update e fun o => { o with dict := some s.heap.objs.size }).Ns s.heap.objs.size (fun _ => none) :=
      ⟨_, #[], _, hgd, rfl, fun e he => absurd he (by simp), fun _ => rfl⟩
    refine store_dict (Heap.Ns1.of_empty hnd) Within.nil (by simp) fun h' hn' hs => ?_
    refine h h' s.heap.objs.size _ ⟨(hs.2 e hes).trans (Heap.get?_update_self _ hx₁ rfl), hes.symm, ?_⟩ (fun b o hbe _ hb => (hs.2 b (Nat.ne_of_lt (Heap.lt_size hb))).trans ((Heap.get?_update_ne _ _ _ _ hbe).trans (Heap.get?_push_of_some _ hb))) ⟨fun _ q => (nomatch q), fun _ => Heap.get?_none_of_le (Nat.le_refl _)⟩
    rw [show mA = fun _ => none from funext hd]
    exact hn'
  | some d =>
    show wpAny _ _ (instanceDict e true) _ _ _
    unfold instanceDict
    refine wpAny_bind (wpAny_loadPart hx ?_)
    show wpAny _ _ (classData 45 >>= _) _ _ _
    refine wpAny_bind (L.at ?_)
    rw [hdd]
    refine wpAny_pure (a := some d) ?_
    obtain ⟨hde, hns⟩ := hd
    refine store_dict hns hw hz fun h' hn' hs => ?_
    exact h h' d _ ⟨(hs.2 e hde.symm).trans hx, hde, hn'⟩ (fun b o _ hbd hb => (hs.2 b (fun q => hbd (by rw [q]))).trans hb) ⟨fun _ q => Option.some.inj q, fun q => nomatch q⟩
end
section
variable {P : Params} {S : Setting}
abbrev gfCls : Obj := excClassObj "GrammarFault" "GrammarFault" 45 44 [.ref 32] [.ref 32, .type "Exception", .type "BaseException", .type "object"] true [] [] false none none (some (.ref 36)) none (some (.str "GrammarFault" 221)) (some (.str "GrammarFault" 229)) (some (.bool true)) "Exception.__new__"
theorem gf_cls : (hd.heap_39 P).lookup 45 = some gfCls := by kernel_rfl
theorem ei_find : findCls (hd.heap_39 P) (.type "Exception") (.type "type") "__init__" = some (.val (.builtin "Exception.__init__")) := by kernel_rfl
theorem ei_meta : findIn (hd.heap_39 P) (.type "type") "__getattribute__" = some (some (.builtin "type.__getattribute__")) := by kernel_rfl
theorem ei_sub : subIn (hd.heap_39 P) (.type "type") (.type "type") = some true := by kernel_rfl
theorem ei_opaque : peek (hd.heap_39 P) S (opaqueClassAbove (.type "Exception")) = some none := by kernel_rfl
theorem ei_type : peek (hd.heap_39 P) S (typeOf (.type "Exception")) = some (.type "type") := by kernel_rfl
end
section
variable {prog : Program} {w : World} {A : Around} {E : Value → Shared → Prop}
theorem method_ei {s : Shared} {pl : Sem Bool} {Q : Value × List Value → Shared → Prop} (X : (hd.heap_39 w.params).In s.heap) (h : Q (.builtin "Exception.__init__", []) { s with toks := s.toks + 1 }) :
    wpAny (model prog w) A (getMethod (.type "Exception") "__init__" pl) Q E s := by
  have ht : Looks (model prog w) s.heap (typeOf (.type "Exception")) (.type "type") := Looks.of_peek X ei_type
  unfold getMethod specialOf
  refine wpAny_bind (wpAny_bind (ht.here ((looks_findIn X ei_meta).here ?_)))
  dsimp only
  rw [if_pos canon_tga]
  refine wpAny_bind (m := getAttr (.type "Exception") "__init__") (cls_open X (Looks.of_peek X ei_opaque) ht ei_meta (hook := none) ?_ ei_sub ei_find ?_)
  · exact Looks.of_pure rfl
  · refine wpAny_pure ?_
    show wpAny _ _ (handedOut (.builtin "Exception.__init__")) _ _ _
    rw [handedOut_of (by decide +kernel)]
    exact wpAny_pure (wpAny_pure h)
theorem call_ei {s : Shared} {e t0 : Addr} {v : Value} {Q : Value → Shared → Prop} (X : (hd.heap_39 w.params).In s.heap) (he : s.heap.get? e = some (excO none t0))
    (h : ∀ h' t', (∀ b o, b ≠ e → s.heap.get? b = some o → h'.get? b = some o) → h'.get? e = some (excO none t') → Q .none { s with heap := h' }) :
    wpAny (model prog w) A (call (.builtin "Exception.__init__") [.ref e, v]) Q E s := by
  have F := PySem.F.excBase_Exception
  have I : InstAt s.heap e (excO none t0) 45 none := ⟨he, rfl, rfl, trivial⟩
  have sub : Looks (model prog w) s.heap (isInstance (.ref e) (.type "Exception")) true := I.type.andThen (looks_subIn X gf_exc)
  refine wpAny_call (codeAny_call_builtin F.init.plain F.initEntry ?_)
  have hstar := F.noStar
  have hC := X _ _ gf_cls
  have hcB : (Value.ref 45 :: ([.ref 32, .type "Exception", .type "BaseException", .type "object"] : List Value)).contains (.type "Exception") = true := by decide +kernel
  obtain ⟨h0, g, d, tk, os⟩ := s
  simp only [checkBuiltinCall, F.initKind, F.initSplit, F.initRow]
  repeat (first | with_reducible refine wpAny_loadPart_at he ?_ | with_reducible refine wpAny_loadPart_at hC ?_ | (with_reducible refine wpAny_isSubtype_exc hC ?_; rw [hcB]) | wp_step)
  have hes : e ≠ h0.objs.size := Nat.ne_of_lt (Heap.lt_size he)
  refine h _ h0.objs.size (fun b o hb eb => (Heap.get?_update_ne _ _ _ _ hb).trans (Heap.get?_push_of_some _ eb)) ?_
  rw [Heap.get?_update_self _ (Heap.get?_push_of_some _ he) rfl]
  rfl
end
end Mine
end R1

section R2
open PySem PySem.W PyProof.Rows PySem.Spec PySem.Calls
set_option maxHeartbeats 2000000
namespace Mine
theorem topOffR2 : True := by
  w_top off
  trivial
section
variable {prog : Program} {w : World} {A : Around} {E : Value → Shared → Prop} {s : Shared} {g : Heap} {L e t d : Addr} {m : Str → Option Value} {mA : Str → Option Value} {news : List (Addr × Obj)}
theorem ei_use {v : Value} {Q : Value → Shared → Prop} (X : (hd.heap_39 w.params).In g) (F : Fr g L s.heap m) (N : News g L s.heap news) (hm : (e, excO none t) ∈ news)
    (h : ∀ h' t', Fr g L h' m → XSt h' e t' none (fun _ => none) → (g.get? e = none ∧ e ≠ L) → Q .none { s with heap := h' }) : wpAny (model prog w) A (call (.builtin "Exception.__init__") [.ref e, v]) Q E s := by
  have z := N _ hm
  exact call_ei (X.keeps F.keep) z.1 fun h' t' k he => h h' t' (fr_keep1 F k z.2.1 z.2.2) ⟨he, fun _ => rfl⟩ ⟨z.2.2, z.2.1⟩
theorem fr_keep2 {h h' : Heap} (F : Fr g L h m) (k : ∀ b o, b ≠ e → b ≠ d → h.get? b = some o → h'.get? b = some o) (he : e ≠ L) (he0 : g.get? e = none) (hd : d ≠ L) (hd0 : g.get? d = none) : Fr g L h' m := by
  obtain ⟨o, es, ep, ho, r⟩ := F.ns
  refine ⟨⟨o, es, ep, k L o (Ne.symm he) (Ne.symm hd) ho, r⟩, fun b o e => k b o (fun q => by rw [q, he0] at e; cases e) (fun q => by rw [q, hd0] at e; cases e) (F.keep b o e), F.above⟩
theorem set_use0 {name : Str} {v : Value} {Q : Unit → Shared → Prop} (X : (hd.heap_39 w.params).In g) (F : Fr g L s.heap m) (x : XSt s.heap e t none mA) (he : g.get? e = none ∧ e ≠ L)
    (hf : findIn (hd.heap_39 w.params) (.ref 45) name = some none)
    (h : ∀ h' d tk', Fr g L h' m → XSt h' e t (some d) (fun y => if y = name then some v else none) → (g.get? d = none ∧ d ≠ L) → Q () { s with heap := h', toks := tk' }) :
    wpAny (model prog w) A (setAttr (.ref e) name v) Q E s := by
  have hm : mA = fun _ => none := funext x.2
  subst hm
  refine set_exc (X.keeps F.keep) x hf Within.nil (by simp) fun h' d tk' x' k hd => ?_
  have hd' := hd.2 rfl
  refine h h' d tk' (fr_keep1 F (fun b o hb => k b o hb (fun q => nomatch q)) he.2 he.1) x' ⟨?_, fun q => ?_⟩
  · cases q : g.get? d with
    | none => rfl
    | some o => have := F.keep _ _ q; rw [this] at hd'; cases hd'
  · obtain ⟨o, es, ep, ho, r⟩ := F.ns
    rw [q, ho] at hd'; cases hd'
theorem set_use1 {name : Str} {v : Value} {ns : List Str} {Q : Unit → Shared → Prop} (X : (hd.heap_39 w.params).In g) (F : Fr g L s.heap m) (x : XSt s.heap e t (some d) mA) (he : g.get? e = none ∧ e ≠ L) (hd0 : g.get? d = none ∧ d ≠ L)
    (hf : findIn (hd.heap_39 w.params) (.ref 45) name = some none) (hw : Within mA ns) (hz : ns.length ≤ 10)
    (h : ∀ h' tk', Fr g L h' m → XSt h' e t (some d) (fun y => if y = name then some v else mA y) → Q () { s with heap := h', toks := tk' }) :
    wpAny (model prog w) A (setAttr (.ref e) name v) Q E s := by
  refine set_exc (X.keeps F.keep) x hf hw hz fun h' d' tk' x' k hd' => ?_
  have hdd := hd'.1 _ rfl
  subst hdd
  exact h h' tk' (fr_keep2 F (fun b o hb hb' => k b o hb (fun q => hb' (Option.some.inj q))) he.2 he.1 hd0.2 hd0.1) x'
end
local macro_rules | `(tactic| k_all) => `(tactic| assumption)
local macro_rules | `(tactic| walk_at "getMethod") => `(tactic| (k_here; (with_reducible show wpAny _ _ (getMethod (Value.type "Exception") _ _) _ _ _); (refine' method_ei ?kx ?_; (case kx => exact PySem.W.Frag.In.keeps (by assumption) (Fr.keep (by k_asm))))))
local macro_rules | `(tactic| walk_at "call builtin:Exception.__init__") => `(tactic| (k_here; (refine' ei_use ?kx ?k1 ?k2 ?k3 ?_; (case k1 => k_asm); (case k2 => k_asm); (case k3 => k_mem); (case kx => assumption)); intro h9 t9 F9 x9 y9))
local macro_rules | `(tactic| walk_at "setAttr ref") => `(tactic| (k_here; (refine' set_use0 ?kx ?k1 ?k2 ?k3 ?k4 ?_; (case k1 => k_asm); (case k2 => assumption); (case k3 => assumption); (case kx => assumption); (case k4 => exact gf_msg)); intro h9 d9 tk9 F9 x9 y9))
local macro_rules | `(tactic| walk_at "setAttr ref") => `(tactic| (k_here; (refine' set_use1 ?kx ?k1 ?k2 ?k3 ?k5 ?k4 ?k6 ?k7 ?_; (case k1 => k_asm); (case k2 => assumption); (case k3 => assumption); (case k5 => assumption); (case kx => assumption); (case k4 => exact gf_spot); (case k6 => exact Within.cons _ _ Within.nil); (case k7 => decide)); intro h9 tk9 F9 x9))
/-- the names that an exception holds behind its __init__ -/
abbrev xMap (msg : Str) (sp : Int) (tm ts : Tok) : Str → Option Value := fun y => if y = Str.ofString "spot" then some (.int sp ts) else if y = Str.ofString "message" then some (.str msg tm) else none
theorem init_ok {w : World} {mean : ExcName → Option Value} {mg mb : Str → Option Value} {hR : Heap} {dp un : Nat} {fr : Option (List Env)} {gd : Option (List Code)} {s : Shared} {Q E : Value → Shared → Prop} {e t0 : Addr} {msg : Str} {sp : Int} {tm ts : Tok}
    (X : (hd.heap_39 w.params).In hR) (T : Top hd.view_39 (looseW hd.view_39 [Str.ofString "ChanError"]) mean mg mb hR) (st : hR.StaysIn s.heap) (hd : dp + 10 < recursionLimit)
    (he : s.heap.get? e = some (excO none t0)) (he0 : hR.get? e = none)
    (ret : ∀ h' d t tk', (∀ b o, b ≠ e → s.heap.get? b = some o → h'.get? b = some o) → XSt h' e t (some d) (xMap msg sp tm ts) → s.heap.get? d = none → Q .none { s with heap := h', toks := tk' }) :
    wpAny (model PySem.Challenge.rw_pq0225_01.row.prog w) (Ar dp un fr gd) (call (.ref 29) [.ref e, .str msg tm, .int sp ts]) Q E s := by
  have XS := X.keeps st
  have X0 := X
  revert X; k_fill; intro X
  refine' enter (binds := [(Str.ofString "self", .ref e), (Str.ofString "message", .str msg tm), (Str.ofString "spot", .int sp ts)]) [(e, excO none t0)] X T st (hide1 he he0) ?k6 ?k7 ?k8 ?k9 ?kB ?h ?c2 ?c3 ?c4 ?c5
  case k6 => k_is
  case k7 => k_is
  case k8 => show dp < _; omega
  case k9 => exact binds_K XS rfl (by k_is) rfl rfl rfl
  case kB => exact locs rfl
  case c2 => exact rfl
  case c3 => exact rfl
  case c4 => exact rfl
  case c5 => decide
  case h =>
    intro g' L' h' F' N' l1 X' T' stg kG'
    k_lt l1
    have X1 : (Mine.hd.heap_39 w.params).In g' := X0.keeps (fun b o e => stg b o e)
    (try dsimp only)
    (try k_unmd); (try k_fold)
    k_steps
    rename Fr _ _ _ _ => F9
    rename XSt _ _ _ _ _ => x9
    rename (Heap.get? _ _ = none ∧ _) => y9
    refine ret _ _ _ _ (fun b o hb eb => F9.keep b o (kG' b o eb (by simpa using hb))) x9 ?_
    have hde := x9.2.1
    cases q : s.heap.get? _ with
    | none => rfl
    | some o =>
      have := kG' _ o q (by simpa using hde)
      rw [y9.1] at this; cases this
end Mine
end R2

section R3
open PySem PySem.W PyProof.Rows PySem.Spec PySem.Calls Builtin Builtin.ObjectAttr
set_option maxHeartbeats 2000000
namespace Mine
section
variable {P : Params} {S : Setting}
theorem gf_call : specialIn (hd.heap_39 P) (.ref 45) "__call__" = some (some (.builtin "type.__call__")) := by kernel_rfl
theorem gf_type : instIn (hd.heap_39 P) (.ref 45) (.type "type") = some true := by kernel_rfl
end
abbrev gfTail : List Value := [.ref 32, .type "Exception", .type "BaseException", .type "object"]
theorem new_gf {prog : Program} {w : World} {A : Around} {R : Result → Shared → Prop} {h : Heap} {g : Array GenState} {d : Drawn} {t : Nat} {os : OsState} {rest : List Value} (hC : h.get? 45 = some gfCls) (hz : rest.length ≤ sizeLine)
    (hq : R (.ok (.ret (.ref (h.objs.size + 1)))) ⟨(h.push { cls := .type "tuple", data := .seq rest.toArray }).push (excO none h.objs.size), g, d, t, os⟩) :
    codeAny (model prog w) A (.builtin "Exception.__new__" ⟨.ref 45 :: rest, []⟩) R ⟨h, g, d, t, os⟩ := by
  have F := PySem.F.excBase_Exception
  have hends := F.ends
  have hcB : (Value.ref 45 :: gfTail).contains (.type "Exception") = true := by decide +kernel
  have hcA : (Value.ref 45 :: gfTail).contains (.type "AttributeError") = false := by decide +kernel
  have hcN : (Value.ref 45 :: gfTail).contains (.type "NameError") = false := by decide +kernel
  refine codeAny_builtinAt F.entry ?_
  unfold Builtin.«BaseException.__new__»
  refine PySem.wpAt_bind ?_
  show PySem.wpAt _ _ _ (stack >>= _) _ _ _
  refine PySem.wpAt_bind (PySem.wpAt_stack fun p below => PySem.wpAt_of_wpAny ?_)
  wp_walk
  refine PySem.wpAt_of_wpAny ?_
  rw [F.owner]
  repeat (first | with_reducible refine wpAny_madeHere_exc F.canon hC ?_ | with_reducible refine wpAny_loadPart_at hC ?_ | (with_reducible refine wpAny_isSubtype_exc hC ?_; first | rw [hcB] | rw [hcA] | rw [hcN]) | wp_step)
  show R _ _
  rw [Heap.size_push]
  exact hq
theorem call_gf {w : World} {mean : ExcName → Option Value} {mg mb : Str → Option Value} {hR : Heap} {dp un : Nat} {fr : Option (List Env)} {gd : Option (List Code)} {s : Shared} {Q E : Value → Shared → Prop} {msg : Str} {sp : Int} {tm ts : Tok}
    (X : (hd.heap_39 w.params).In hR) (T : Top hd.view_39 (looseW hd.view_39 [Str.ofString "ChanError"]) mean mg mb hR) (st : hR.StaysIn s.heap) (hd : dp + 20 < recursionLimit)
    (ret : ∀ h' e d t tk', (∀ b o, s.heap.get? b = some o → h'.get? b = some o) → XSt h' e t (some d) (xMap msg sp tm ts) → s.heap.get? e = none → s.heap.get? d = none → Q (.ref e) { s with heap := h', toks := tk' }) :
    wpAny (model PySem.Challenge.rw_pq0225_01.row.prog w) (Ar dp un fr gd) (call (.ref 45) [.str msg tm, .int sp ts]) Q E s := by
  have XS := X.keeps st
  have hC := XS _ _ gf_cls
  have F := PySem.F.excBase_Exception
  obtain ⟨h, g, d, t, os⟩ := s
  have call : Looks (model PySem.Challenge.rw_pq0225_01.row.prog w) h (specialOf (.ref 45) "__call__") _ := looks_specialIn XS gf_call
  have typ : Looks (model PySem.Challenge.rw_pq0225_01.row.prog w) h (isInstance (.ref 45) (.type "type")) _ := looks_instIn XS gf_type
  refine wpAny_call (codeAny_of_tree ?_)
  show wpAny _ _ (callAny (.ref 45) _) _ _ _
  refine nd_load hC ?_
  show wpAny _ _ (callAny.viaDunder (.ref 45) _) _ _ _
  unfold callAny.viaDunder
  refine wpAny_bind (call.at ?_)
  dsimp only
  rw [tc_bind]
  refine wpAny_bind (wpAny_pure (wpAny_bind (wpAny_pure ?_)))
  refine wpAny_pure (a := Fin.again (.call (.builtin "type.__call__") ⟨[.ref 45, .str msg tm, .int sp ts], []⟩)) (And.intro rfl ?_)
  refine codeAny_call_builtin_at (Code.quiet_builtin _ (by decide +kernel)) entry_typeCall (check_slot tc_kind tc_split typ (tc_args _ _ _) ?_)
  unfold Builtin.«type.__call__»
  have hcB : (Value.ref 45 :: gfTail).contains (.type "Exception") = true := by decide +kernel
  have hcC : (Value.ref 45 :: gfTail).contains (.ref 45) = true := by decide +kernel
  have hstar := F.noStar
  repeat (first | with_reducible refine wpAny_loadPart_at hC ?_ | with_reducible refine wpAny_madeBy_exc hC ?_ | wp_step)
  refine codeAny_call_builtin_code (Code.quiet_builtin _ F.quiet) ?_
  simp only [checkBuiltinCall, F.newKind, F.newSplit, F.newRow]
  repeat (first | refine wpAny_loadPart_at hC ?_ | (refine wpAny_isSubtype_exc hC ?_; rw [hcB]) | refine wpAny_staticBase_exc hC ?_ | refine wpAny_madeBy_exc hC ?_ | simp only [bne_self_eq_false, Bool.false_eq_true, if_false] | wp_step)
  refine new_gf hC (by rw [sizeLine_eq]; simp) ?_
  have hk : ∀ b o, h.get? b = some o → ((h.push { cls := .type "tuple", data := .seq [Value.str msg tm, .int sp ts].toArray }).push (excO none h.objs.size)).get? b = some o :=
    fun b o e => Heap.get?_push_of_some _ (Heap.get?_push_of_some _ e)
  have hget : ((h.push { cls := .type "tuple", data := .seq [Value.str msg tm, .int sp ts].toArray }).push (excO none h.objs.size)).get? (h.objs.size + 1) = some (excO none h.objs.size) := by heap_get
  have he0 : h.get? (h.objs.size + 1) = none := Heap.get?_none_of_le (Nat.le_succ _)
  generalize (h.push { cls := .type "tuple", data := .seq [Value.str msg tm, .int sp ts].toArray }).push (excO none h.objs.size) = h₁ at hk hget ⊢
  generalize h.objs.size = t0 at hget he0 ⊢
  have X₁ := XS.keeps hk
  have I : InstAt h₁ (t0 + 1) (excO none t0) 45 none := ⟨hget, rfl, rfl, trivial⟩
  have sub : Looks (model PySem.Challenge.rw_pq0225_01.row.prog w) h₁ (isInstance (.ref (t0 + 1)) (.ref 45)) true := I.type.andThen (looks_subIn X₁ gf_self)
  refine wpAny_bind (sub.at ?_)
  rw [if_neg (by decide)]
  refine wpAny_bind (wpAny_holding (special_fn (s := ⟨h₁, g, d, t, os⟩) X₁ I gf_init gf_fn ?_))
  have hw : (Code.builtin "type.__call__" ⟨[.ref 45, .str msg tm, .int sp ts], []⟩).weight = 1 := by kernel_rfl
  refine init_ok (s := ⟨h₁, g, d, t, os⟩) X T (fun b o e => hk b o (st b o e)) (by rw [hw]; show dp + 1 + 10 < _; omega) hget (fresh_of_stays st he0) ?_
  intro h' d' t' tk' k x hd0
  dsimp only
  rw [if_neg (by decide)]
  refine wpAny_pure (ret h' (t0 + 1) d' t' tk' (fun b o eb => k b o (fun q => ?_) (hk b o eb)) x he0 ?_)
  · rw [q, he0] at eb; cases eb
  · cases q : h.get? d' with
    | none => rfl
    | some o => have := hk _ _ q; rw [this] at hd0; cases hd0
end Mine
end R3

section R4
open PySem PySem.W PyProof.Rows PySem.Spec PySem.Calls Builtin Builtin.ObjectAttr
set_option maxHeartbeats 2000000
namespace Mine
section
variable {prog : Program} {w : World} {A : Around} {E : Value → Shared → Prop} {s : Shared} {env : Env}
theorem raiseStmt_gf {x : Sem Value} {Q : Flow → Shared → Prop} (hh : A.handled = none)
    (h : wpAny (model prog w) A x (fun v s₁ => ∃ e t dd, v = .ref e ∧ s₁.heap.get? 45 = some gfCls ∧ s₁.heap.get? e = some (excO dd t) ∧ E (.ref e) s₁) E s) : wpAny (model prog w) A (raiseStmt env (some x) none) Q E s := by
  have hcB : (Value.ref 45 :: gfTail).contains (.type "BaseException") = true := by decide +kernel
  unfold raiseStmt
  refine wpAny_bind (wpAny_mono h (fun v s₁ h₁ => ?_) fun _ _ x => x)
  obtain ⟨e, t, dd, rfl, hC, he, hE⟩ := h₁
  obtain ⟨hp, g, d, tk, os⟩ := s₁
  repeat (first | with_reducible refine wpAny_loadPart_at he ?_ | with_reducible refine wpAny_loadPart_at hC ?_ | (with_reducible refine wpAny_isSubtype_exc hC ?_; rw [hcB]) | wp_step)
  exact wpAny_raiseNew_none hh hE
/-- the arguments are there: the class is called, and what it gives is raised -/
def RArgs (prog : Program) (w : World) (A : Around) (E : Value → Shared → Prop) (vs : List Value) (s : Shared) : Prop :=
  s.heap.get? 45 = some gfCls ∧ wpAny (model prog w) A (call (.ref 45) vs) (fun v s₁ => ∃ e t dd, v = .ref e ∧ s₁.heap.get? 45 = some gfCls ∧ s₁.heap.get? e = some (excO dd t) ∧ E (.ref e) s₁) E s
def RName (prog : Program) (w : World) (A : Around) (E : Value → Shared → Prop) (args : List (Bool × Sem Value)) (f : Value) (s : Shared) : Prop :=
  f = .ref 45 ∧ wpAny (model prog w) A (spliced args) (RArgs prog w A E) E s
theorem raise_gf {x : Str} {np cpos pos : Pos} {e₀ : Expr} {rest : List Expr} {Q : Flow → Shared → Prop} (hh : A.handled = none)
    (h : wpAny (model prog w) A (eval (.Name x np) env) (RName prog w A E (backTo cpos (starEach (e₀ :: rest) env))) E s)
    (he : starEach (e₀ :: rest) env = (false, eval e₀ env) :: starEach rest env := by rfl) (hplain : (backTo cpos (starEach rest env)).any (·.1) = false := by rfl) :
    wpAny (model prog w) A (exec (.Raise (some (.Call (.Name x np) (e₀ :: rest) [] cpos)) none pos) env) Q E s := by
  have hpl : (backTo cpos (starEach (e₀ :: rest) env)).any (·.1) = false := by rw [he]; show (false || (backTo cpos (starEach rest env)).any (·.1)) = false; rw [hplain]; rfl
  rw [arm_exec_Raise]
  refine wpAny_bind (wpAny_standAt (raiseStmt_gf hh ?_))
  refine wpAny_bind (wpAny_mono (wpAny_Call_ofName (wpAny_mono h (fun f s₁ h₁ => ?_) fun _ _ x => x)) (fun v s₃ h₃ => wpAny_bind (wpAny_standAt (wpAny_pure h₃))) fun _ _ x => x)
  obtain ⟨rfl, h₁⟩ := h₁
  unfold callWith
  refine wpAny_bind (wpAny_holding ?_)
  rw [he] at h₁ hpl ⊢
  refine Calls.evalArgs_plain (wpAny_mono h₁ (fun vs s₂ h₂ => wpAny_bind (wpAny_standAt ?_)) fun _ _ x => x)
  obtain ⟨hC, h₂⟩ := h₂
  obtain ⟨hp, g, d, tk, os⟩ := s₂
  simp only [hpl]
  refine wpAny_bind (wpAny_keeperOf_exc hC ?_)
  exact wpAny_bind (wpAny_mono h₂ (fun v s₃ h₃ => wpAny_bind (wpAny_holding (wpAny_point (wpAny_pure h₃)))) fun _ _ x => x)
end
end Mine
end R4

section R5
open PySem PySem.W PyProof.Rows PySem.Spec PySem.Calls
set_option maxHeartbeats 2000000
namespace Mine
/-- what stands in B stands: the frames up to their slots -/
structure Kept (B : Heap) (S : List Addr) (h : Heap) : Prop where
  keep : ∀ b o, b ∉ S → B.get? b = some o → h.get? b = some o
  up : ∀ b o, B.get? b = some o → ∃ sl, h.get? b = some { o with slots := sl }
theorem Kept.of_keeps {B : Heap} {S : List Addr} {h : Heap} (k : ∀ b o, B.get? b = some o → h.get? b = some o) : Kept B S h := ⟨fun b o _ e => k b o e, fun b o e => ⟨o.slots, k b o e⟩⟩
theorem Kept.on {B : Heap} {S : List Addr} {h h' : Heap} (x : Kept B S h) (k : ∀ b o, B.get? b ≠ none → h.get? b = some o → h'.get? b = some o) : Kept B S h' :=
  ⟨fun b o hb e => k b o (by rw [e]; simp) (x.keep b o hb e), fun b o e => let ⟨sl, q⟩ := x.up b o e; ⟨sl, k b _ (by rw [e]; simp) q⟩⟩
theorem Kept.slots {B : Heap} {S : List Addr} {h h' : Heap} (x : Kept B S h) (k : Heap.SlotsOnly S h h') : Kept B S h' :=
  ⟨fun b o hb e => (k.2.1 b hb).trans (x.keep b o hb e), fun b o e => let ⟨sl, q⟩ := x.up b o e; let ⟨sl', q'⟩ := k.2.2 b _ q; ⟨sl', q'⟩⟩
/-- the fault with its traceback -/
def Fly (B : Heap) (e d t : Addr) (fl : Value) (h : Heap) : Prop :=
  ∃ vs T oT ts, h.get? e = some { cls := .ref 45, dict := some d, data := .fields vs } ∧ vs[0]? = some (.ref t) ∧ vs[1]? = some (.ref T) ∧ B.get? T = none ∧ T ≠ e ∧ h.get? T = some oT ∧ oT.data = .fields ts ∧ ts[3]? = some fl
section
variable {M : Model} {A : Around} {E : Value → Shared → Prop} {s : Shared} {B base : Heap} {env : Env} {outer : List Env} {L e d t : Addr} {vs : Array Value} {head : Value} {hadNext : Bool} {Q : Unit → Shared → Prop}
theorem entry_exc (hfr : A.frames = some (env :: outer)) (hl : s.heap.FunFrames base (env :: outer)) (hf : env.frame = some L) (K : Kept B ((env :: outer).filterMap (·.frame)) s.heap) (heB : B.get? e = none)
    (he : s.heap.get? e = some { cls := .ref 45, dict := some d, data := .fields vs }) (hsz : 1 < vs.size) (h0 : vs[0]? = some (.ref t))
    (h : ∀ h', Kept B ((env :: outer).filterMap (·.frame)) h' → Fly B e d t (rawInt L) h' → Q () { s with heap := h' }) :
    wpAny M A (do let a ← frameOf env; let pl ← entryPlaceOf L hadNext; let b ← EntryCells.newEntry head a .none (rawInt L) .none pl; setField (.ref e) 1 b) Q E s := by
  have hene : e ∉ (env :: outer).filterMap (·.frame) := fun hm => by
    obtain ⟨_, o, ho, hnf⟩ := hl.mem hm
    rw [he] at ho; cases ho; exact hnf vs rfl
  refine wpAny_bind (wpAny_frameOf_fun hfr hl hf fun h₁ hs₁ => ?_)
  have K₁ := K.slots hs₁
  have he₁ := (hs₁.2.1 e hene).trans he
  refine wpAny_bind (wpAny_entryPlaceOf fun pl hpl => ?_)
  unfold EntryCells.newEntry newFields
  refine wpAny_bind (wpAny_newObj_type ?_ (hpl.sizeOk5 _ _ _ _ _))
  have hne : h₁.objs.size ≠ e := Nat.ne_of_gt (Heap.lt_size he₁)
  refine wpAny_setField (Heap.get?_push_of_some _ he₁) rfl hsz (h _ (K₁.on fun b o hb eb => ?_) ?_)
  · have hbe : e ≠ b := fun q => hb (q ▸ heB)
    rw [Heap.get?_update_other _ _ hbe]
    exact Heap.get?_push_of_some _ eb
  · refine ⟨_, h₁.objs.size, _, _, Heap.get?_update_self _ (Heap.get?_push_of_some _ he₁) rfl, ?_, ?_, ?_, hne, (Heap.get?_update_other _ _ (Ne.symm hne)).trans (Heap.get?_push_size _ rfl), rfl, ?_⟩
    · rw [Array.getElem?_setIfInBounds_ne (by decide)]; exact h0
    · simp [hsz]
    · cases q : B.get? h₁.objs.size with
      | none => rfl
      | some o => obtain ⟨sl, q'⟩ := K₁.up _ _ q; exact absurd (Heap.lt_size q') (Nat.lt_irrefl _)
    · first | (simp; done) | (rcases hpl with rfl | ⟨_, _, _, _, _, _, _, rfl⟩ <;> simp)
theorem flight_exc {fl : Value} {S : List Addr} (K : Kept B S s.heap) (F : Fly B e d t fl s.heap) (h : ∀ h', Kept B S h' → Fly B e d t .none h' → Q () { s with heap := h' }) : wpAny M A (setFlight (.ref e) none) Q E s := by
  obtain ⟨vs, T, oT, ts, he, h0, h1, hT, hTe, hoT, hts, h3⟩ := F
  unfold setFlight
  refine wpAny_bind (wpAny_field he rfl h1 ?_)
  rw [if_pos (show (Value.ref T != Value.none) = true from by simp)]
  have hsz3 := (Array.getElem?_eq_some_iff.mp h3).1
  refine wpAny_setField hoT hts hsz3 (h _ (K.on fun b o hb eb => (Heap.get?_update_other _ _ (fun q : T = b => hb (by rw [← q]; exact hT))).trans eb) ?_)
  exact ⟨vs, T, _, _, (Heap.get?_update_other _ _ hTe).trans he, h0, h1, hT, hTe, Heap.get?_update_self _ hoT (Obj.isFreed_of_fields (Obj.data_mapFields hts _)), Obj.data_mapFields hts _, by simp [hsz3]⟩
theorem leave_exc (hfr : A.frames = some (env :: outer)) (hl : s.heap.FunFrames base (env :: outer)) (hf : env.frame = some L) (K : Kept B ((env :: outer).filterMap (·.frame)) s.heap) (heB : B.get? e = none)
    (he : s.heap.get? e = some (excO (some d) t)) (h : ∀ h', Kept B ((env :: outer).filterMap (·.frame)) h' → Fly B e d t .none h' → Q () { s with heap := h' }) : wpAny M A (leaving env (.ref e)) Q E s := by
  unfold leaving noteFrame
  simp only [hf]
  refine wpAny_bind (wpAny_bind (wpAny_field he rfl (x := .none) rfl ?_))
  rw [if_neg (by decide)]
  refine entry_exc hfr hl hf K heB he (by show 1 < 6; decide) rfl fun h' K' F' => ?_
  exact flight_exc K' F' h
theorem note_exc (hfr : A.frames = some (env :: outer)) (hl : s.heap.FunFrames base (env :: outer)) (hf : env.frame = some L) (K : Kept B ((env :: outer).filterMap (·.frame)) s.heap) (heB : B.get? e = none)
    (F : Fly B e d t .none s.heap) (h : ∀ h', Kept B ((env :: outer).filterMap (·.frame)) h' → Fly B e d t (rawInt L) h' → Q () { s with heap := h' }) : wpAny M A (noteFrame (.ref e) env) Q E s := by
  obtain ⟨vs, T, oT, ts, he, h0, h1, hT, hTe, hoT, hts, h3⟩ := F
  unfold noteFrame
  simp only [hf]
  refine wpAny_bind (wpAny_field he rfl h1 ?_)
  rw [if_pos (show (Value.ref T != Value.none) = true from by simp)]
  refine wpAny_bind (wpAny_field hoT hts h3 ?_)
  rw [if_neg (show ¬ ((Value.none == rawInt L) = true) from by simp [rawInt])]
  refine wpAny_bind (wpAny_setField hoT hts (Array.getElem?_eq_some_iff.mp h3).1 ?_)
  have other : ∀ b, b ≠ T → (s.heap.update T (Obj.mapFields (·.setIfInBounds 3 Value.none))).get? b = s.heap.get? b := fun b hb => Heap.get?_update_other _ _ (Ne.symm hb)
  refine entry_exc hfr (hl.of_keeps fun b o hb hnf => ⟨o, (other b fun q => ?_).trans hb, rfl⟩) hf (K.on fun b o hb eb => (other b fun q => hb (q ▸ hT)).trans eb) heB ((other e (Ne.symm hTe)).trans he) (Array.getElem?_eq_some_iff.mp h1).1 h0 h
  rw [q, hoT] at hb; cases hb; exact hnf ts hts
end
end Mine
end R5

section R6
open PySem PySem.W PyProof.Rows PySem.Spec PySem.Calls
set_option maxHeartbeats 2000000
namespace Mine
abbrev frs (l : List Env) : List Addr := l.filterMap (·.frame)
/-- a fault leaves a frame -/
theorem raise_out {w : World} {mean : ExcName → Option Value} {mg mb : Str → Option Value} {hR g s₀ : Heap} {dp un : Nat} {fr : Option (List Env)} {gd : Option (List Code)} {s : Shared} {E : Value → Shared → Prop} {env : Env} {outer : List Env} {L : Addr} {m : Str → Option Value} {msg : Str} {sp : Int} {tm ts : Tok}
    (X : (hd.heap_39 w.params).In hR) (T : Top hd.view_39 (looseW hd.view_39 [Str.ofString "ChanError"]) mean mg mb hR) (stg : hR.StaysIn g) (kG : s₀.StaysIn g) (F : Fr g L s.heap m) (hL0 : s₀.get? L = none) (hR0 : hR.get? L = none)
    (hfr : fr = some outer) (hff : s₀.FunFrames hR outer) (hf : env.frame = some L) (hkind : env.scope.kind ≠ .module) (hdp : dp + 30 < recursionLimit)
    (h : ∀ e d tt h' tk', Kept s₀ (frs outer) h' → Fly s₀ e d tt .none h' → h'.Ns1 d (xMap msg sp tm ts) → d ≠ e → s₀.get? e = none → s₀.get? d = none → E (.ref e) { s with heap := h', toks := tk' }) :
    RArgs PySem.Challenge.rw_pq0225_01.row.prog w ((Ar dp un fr gd).deeper env)
      (fun e s' => wpAny (model PySem.Challenge.rw_pq0225_01.row.prog w) ((Ar dp un fr gd).deeper env) (leaving env e) (fun _ s'' => E e s'') (fun e' s'' => E e' s'') s') [.str msg tm, .int sp ts] s := by
  have st : hR.StaysIn s.heap := fun b o e => F.keep b o (stg b o e)
  have s0 : s₀.StaysIn s.heap := fun b o e => F.keep b o (kG b o e)
  refine ⟨X.keeps st _ _ gf_cls, ?_⟩
  refine call_gf (dp := dp + 1) X T st (by omega) ?_
  intro h₂ e d t tk₂ k x he0 hd0
  obtain ⟨he, hde, hns⟩ := x
  refine ⟨e, t, some d, rfl, k _ _ (X.keeps st _ _ gf_cls), he, ?_⟩
  have fresh : ∀ {b : Addr}, s.heap.get? b = none → s₀.get? b = none := fun {b} e => by
    cases q : s₀.get? b with
    | none => rfl
    | some o => have := s0 b o q; rw [this] at e; cases e
  have hNs : h₂.Ns L m := let ⟨o, es, ep, e, r⟩ := F.ns; ⟨o, es, ep, k _ _ e, r⟩
  have hl : h₂.FunFrames hR (env :: outer) := Heap.FunFrames.cons hkind hf hNs hR0 (hff.of_keeps fun b o e _ => ⟨o, k _ _ (s0 _ _ e), rfl⟩)
  have hdf : d ∉ frs (env :: outer) := fun hm => by
    have hl1 : s.heap.FunFrames hR (env :: outer) := Heap.FunFrames.cons hkind hf F.ns hR0 (hff.of_keeps fun b o e _ => ⟨o, s0 _ _ e, rfl⟩)
    obtain ⟨_, o, ho, _⟩ := hl1.mem hm
    rw [ho] at hd0; cases hd0
  have sB : ∀ b o, s₀.get? b = some o → (hideAll h₂ [e]).get? b = some o := fun b o eb => hideAll_get _ (k _ _ (s0 _ _ eb)) (fun hm => by
    rw [List.mem_singleton.mp hm, fresh he0] at eb; cases eb)
  refine leave_exc (outer := outer) (base := hR) (B := hideAll h₂ [e]) (Around.frames_deeper hfr) hl hf (Kept.of_keeps fun b o eb => of_hideAll _ eb) (hideAll_none _ (List.mem_singleton.mpr rfl)) he ?_
  intro h₃ K FL
  refine h e d t h₃ tk₂ ⟨fun b o hb eb => K.keep b o (fun hm => ?_) (sB b o eb), fun b o eb => K.up b o (sB b o eb)⟩ ?_ ?_ hde (fresh he0) (fresh hd0)
  · have hm' : b ∈ L :: frs outer := by simpa [frs, List.filterMap_cons, hf] using hm
    rcases List.mem_cons.mp hm' with q | q
    · rw [q, hL0] at eb; cases eb
    · exact hb q
  · obtain ⟨vs, T', oT, ts', q1, q2, q3, q4, q5, q6, q7, q8⟩ := FL
    refine ⟨vs, T', oT, ts', q1, q2, q3, ?_, q5, q6, q7, q8⟩
    cases q : s₀.get? T' with
    | none => rfl
    | some o => rw [sB _ _ q] at q4; cases q4
  · exact hns.at fun o ho => K.keep d o hdf (hideAll_get _ ho (fun hm => hde (List.mem_singleton.mp hm)))
end Mine
end R6

section R7
open PySem PySem.W PyProof.Rows PySem.Spec PySem.Calls Builtin Builtin.ObjectAttr
set_option maxHeartbeats 2000000
namespace Mine
/-- such an exception, whatever its fields -/
def XG (h : Heap) (e d : Addr) (mA : Str → Option Value) : Prop := (∃ vs, h.get? e = some { cls := .ref 45, dict := some d, data := .fields vs }) ∧ d ≠ e ∧ h.Ns1 d mA
theorem XG.inst {h : Heap} {e d : Addr} {mA : Str → Option Value} (x : XG h e d mA) : ∃ ox od, InstAt h e ox 45 od := by
  obtain ⟨⟨vs, he⟩, _, o, es, ep, ho, _⟩ := x
  exact ⟨_, some o, he, rfl, rfl, ho⟩
section
variable {prog : Program} {w : World} {A : Around} {E : Value → Shared → Prop}
theorem get_xg {s : Shared} {e d : Addr} {mA : Str → Option Value} {name : Str} {v : Value} {expr : Bool} {Q : Value → Shared → Prop} (X : (hd.heap_39 w.params).In s.heap) (x : XG s.heap e d mA)
    (hf : findIn (hd.heap_39 w.params) (.ref 45) name = some none) (hv : mA name = some v) (hh : handedIn v = true)
    (h : Q v { s with toks := s.toks + 1 }) : wpAny (model prog w) A (getAttr (.ref e) name expr) Q E s := by
  obtain ⟨ox, od, I⟩ := x.inst
  have FB := PySem.F.attrBase_Exception
  have hga : Looks (model prog w) s.heap (typeLookup (.ref 45) "__getattribute__") _ := looks_findIn X gf_ga
  have hgh : Looks (model prog w) s.heap (typeLookup (.ref 45) "__getattr__") _ := looks_findIn X gf_gh
  have hc : Looks (model prog w) s.heap (typeLookup (.ref 45) name) none := looks_findIn X hf
  have sub : Looks (model prog w) s.heap (isInstance (.ref e) (.type "BaseException")) true := I.type.andThen (looks_subIn X gf_bexc)
  obtain ⟨cd, hcd, hdd⟩ := any_some (gf_hasDict (P := w.params))
  have L := looks_clsIn (M := model prog w) X hcd
  unfold getAttr getAttrBy
  refine wpAny_bind (wpAny_mkText (wpAny_holding (wpAny_bind (I.type.at (wpAny_bind (hga.at ?_))))))
  have h0 : (onTheHeap (Value.ref 45) && Value.builtin "BaseException.__getattribute__" == Value.builtin "object.__getattribute__") = false := by decide +kernel
  show wpAny _ _ (if (onTheHeap (Value.ref 45) && Value.builtin "BaseException.__getattribute__" == Value.builtin "object.__getattribute__") = true then _ else _) _ _ _
  rw [h0, if_neg (by decide)]
  unfold getAttrByItsOwn hookBefore
  show wpAny _ _ (typeLookup (.ref 45) "__getattr__" >>= _) _ _ _
  refine wpAny_bind (hgh.at ?_)
  have h1 : (expr && onTheHeap (Value.builtin "BaseException.__getattribute__")) = false := by cases expr <;> rfl
  unfold callGetattribute
  rw [h1, if_neg (by decide)]
  unfold boundAndCalled
  rw [FB.ga.bind]
  refine wpAny_bind (wpAny_attempt (wpAny_holding (wpAny_bind (wpAny_pure (wpAny_call ?_)))))
  refine codeAny_call_builtin FB.ga.plain PySem.F.entry_bexc_ga (@check_slot (model prog w) _ _ { s with toks := s.toks + 1 } "BaseException.__getattribute__" "BaseException" "__getattribute__" (.ref e) [.str name s.toks] [] _ (by decide +kernel) (by decide +kernel) sub (PySem.F.args_bexc_ga (.ref e) (.str name s.toks)) ?_)
  have ho : Looks (model prog w) s.heap (inOwnDict name (.ref e)) (some v) := by
    obtain ⟨⟨vs, hx⟩, hde, hns⟩ := x
    intro A Q E s' k q
    refine wpAny_bind (wpAny_bind (wpAny_loadPart (k _ _ hx) ?_))
    show wpAny _ _ (instanceDict e false) _ _ _
    unfold instanceDict
    refine wpAny_bind (wpAny_loadPart (k _ _ hx) ?_)
    show wpAny _ _ (classData 45 >>= _) _ _ _
    refine wpAny_bind (L A _ E s' k ?_)
    rw [hdd]
    refine wpAny_pure (a := some d) ?_
    refine wpAny_nsGet (hns.keeps k).ns ?_
    rw [hv]; exact q
  have hfind : Looks (model prog w) s.heap (find (.ref e) (.ref 45) name) (.value v) := hc.andThen (Looks.now.andThen (Looks.now.andThen (ho.andThen (Looks.tag .now))))
  show wpAny _ _ (typeOf (.ref e) >>= fun tp => find (.ref e) tp name >>= _) _ _ _
  refine wpAny_bind (I.type.at (wpAny_bind (hfind.at (wpAny_pure ?_))))
  show wpAny _ _ (handedOut v) _ _ _
  rw [handedOut_of hh]
  exact wpAny_pure h
end
theorem Fly.xg {B h : Heap} {e d t : Addr} {fl : Value} {mA : Str → Option Value} (x : Fly B e d t fl h) (hd : d ≠ e) (ns : h.Ns1 d mA) : XG h e d mA := by
  obtain ⟨vs, T, oT, ts, he, _⟩ := x
  exact ⟨⟨vs, he⟩, hd, ns⟩
theorem fr_kept {g h h' : Heap} {L : Addr} {m : Str → Option Value} {S : List Addr} (F : Fr g L h m) (K : Kept h S h') (hS : ∀ b o, g.get? b = some o → b ∉ S) : Fr g L h' m := by
  obtain ⟨o, es, ep, ho, hd, r⟩ := F.ns
  obtain ⟨sl, q⟩ := K.up L o ho
  exact ⟨⟨_, es, ep, q, hd, r⟩, fun b o e => K.keep b o (hS b o e) (F.keep b o e), F.above⟩
theorem Kept.trans {B₁ B₂ h : Heap} {S : List Addr} (x : Kept B₁ S B₂) (y : Kept B₂ S h) : Kept B₁ S h :=
  ⟨fun b o hb e => y.keep b o hb (x.keep b o hb e), fun b o e => let ⟨sl, q⟩ := x.up b o e; let ⟨sl', q'⟩ := y.up b _ q; ⟨sl', q'⟩⟩
theorem Kept.sub {B B' h : Heap} {S : List Addr} (k : ∀ b o, B.get? b = some o → B'.get? b = some o) (y : Kept B' S h) : Kept B S h := ⟨fun b o hb e => y.keep b o hb (k b o e), fun b o e => y.up b o (k b o e)⟩
theorem Kept.hide {B h₁ h₂ : Heap} {S l : List Addr} (x : Kept B S h₁) (hl : ∀ b ∈ l, B.get? b = none) (y : Kept (hideAll h₁ l) S h₂) : Kept B S h₂ := by
  have ne : ∀ b o, B.get? b = some o → b ∉ l := fun b o e hm => by rw [hl b hm] at e; cases e
  exact ⟨fun b o hb e => y.keep b o hb (hideAll_get _ (x.keep b o hb e) (ne b o e)), fun b o e => let ⟨sl, q⟩ := x.up b o e; let ⟨sl', q'⟩ := y.up b _ (hideAll_get _ q (ne b o e)); ⟨sl', q'⟩⟩
/-- a fault comes to its clause -/
theorem caught_gf {w : World} {p : Program} {loose : List Str} {mg mb : Str → Option Value} {hR g h : Heap} {dp un : Nat} {fr : Option (List Env)} {gd : Option (List Code)} {s' : Shared} {Q : Flow → Shared → Prop} {E : Value → Shared → Prop} {envL : Env}
    {Lc L a e d tt : Addr} {m : Str → Option Value} {name : Str} {scope : Scope} {cd : Value} {oc : Obj} {mA : Str → Option Value} {x n : Str} {np pos : Pos} {b₀ : Stmt} {suite : List Stmt} {rest : List ExceptHandler} {K : Frag}
    (X : (hd.heap_39 w.params).In g) (XK : K.In g) (T : TopRead p loose mg mb g) (F : Fr g L h m) (hgL : hR.StaysIn g) (hfr : fr = some [envL]) (hkL : envL.scope.kind ≠ .module) (hfL : envL.frame = some Lc) (hoc : h.get? Lc = some oc) (hoc2 : ∀ vs, oc.data ≠ .fields vs) (hgc : g.get? Lc = none) (hcL : Lc ≠ L)
    (ex : nsIn K mainGlobals x = some (some (.ref 45)))
    (KP : Kept h (frs [envOf name scope L a cd, envL]) s'.heap) (FL : Fly h e d tt .none s'.heap) (ns : s'.heap.Ns1 d mA) (hde : d ≠ e) (he0 : h.get? e = none) (hd0 : h.get? d = none)
    (k : ∀ h' sl tk, Fr g L h' (fun y => if y = n then some (.ref e) else m y) → News g L h' [(Lc, { oc with slots := sl })] → XG h' e d mA →
      wpAny (model PySem.Challenge.rw_pq0225_01.row.prog w) (((Ar dp un fr gd).deeper (envOf name scope L a cd)).mark (some (.ref e))) (execs (b₀ :: suite) (envOf name scope L a cd))
        (fun f s₄ => wpAny (model PySem.Challenge.rw_pq0225_01.row.prog w) ((Ar dp un fr gd).deeper (envOf name scope L a cd)) (do bindName (envOf name scope L a cd) n .none; unbindBehindTheSuite (envOf name scope L a cd) n pos) (fun _ s₅ => Q f s₅) E s₄)
        (AsSuiteRaised (model PySem.Challenge.rw_pq0225_01.row.prog w) (((Ar dp un fr gd).deeper (envOf name scope L a cd)).mark (some (.ref e))) (envOf name scope L a cd) n pos (notedBy (model PySem.Challenge.rw_pq0225_01.row.prog w) (((Ar dp un fr gd).deeper (envOf name scope L a cd)).mark (some (.ref e))) (envOf name scope L a cd) (cameBackBy (model PySem.Challenge.rw_pq0225_01.row.prog w) ((Ar dp un fr gd).deeper (envOf name scope L a cd)) (envOf name scope L a cd) E)))
        { s' with heap := h', toks := tk })
    (hk : scope.kind = .function := by rfl) (hlo : (envOf name scope L a cd).kindOf n = some .local := by rfl) (hx : (envOf name scope L a cd).kindOf x = some .globalImplicit := by rfl) (hdb : (x == ("__debug__" : Str)) = false := by decide) :
    wpAny (model PySem.Challenge.rw_pq0225_01.row.prog w) ((Ar dp un fr gd).deeper (envOf name scope L a cd)) (noteFrame (.ref e) (envOf name scope L a cd))
      (fun _ s₂ => wpAny (model PySem.Challenge.rw_pq0225_01.row.prog w) ((Ar dp un fr gd).deeper (envOf name scope L a cd)) (setFlight (.ref e) none) (fun _ s₃ =>
        wpAny (model PySem.Challenge.rw_pq0225_01.row.prog w) ((Ar dp un fr gd).deeper (envOf name scope L a cd)) (handleBy (.ref e) (envOf name scope L a cd) (.ExceptHandler (some (.Name x np)) (some n) (b₀ :: suite) pos :: rest)) Q E s₃) E s₂) E s' := by
  have hgL0 : g.get? L = none := Heap.get?_none_of_le F.above
  have hS : ∀ b o, g.get? b = some o → b ∉ frs [envOf name scope L a cd, envL] := fun b o eb hm => by
    have hm' : b = L ∨ b = Lc := by simpa [frs, List.filterMap_cons, hfL, envOf] using hm
    rcases hm' with rfl | rfl
    · rw [hgL0] at eb; cases eb
    · rw [hgc] at eb; cases eb
  have hdS : d ∉ frs [envOf name scope L a cd, envL] := fun hm => by
    have hm' : d = L ∨ d = Lc := by simpa [frs, List.filterMap_cons, hfL, envOf] using hm
    obtain ⟨oL, es, ep, hoL, _⟩ := F.ns
    rcases hm' with rfl | rfl
    · rw [hoL] at hd0; cases hd0
    · rw [hoc] at hd0; cases hd0
  obtain ⟨vs0, T0, oT0, ts0, q1, q2, q3, q4, q5, q6, q7, q8⟩ := id FL
  have hTd : T0 ≠ d := fun q => by
    obtain ⟨o, es, ep, ho, hdd, _⟩ := ns
    rw [q, ho] at q6; cases q6; rw [hdd] at q7; cases q7
  have hl2 : ∀ b ∈ [e, T0], h.get? b = none := fun b hm => by
    rcases List.mem_cons.mp hm with q | q
    · rw [q]; exact he0
    · rw [List.mem_singleton.mp q]; exact q4
  have hRL : hR.get? L = none := fresh_of_stays hgL hgL0
  have hRc : hR.get? Lc = none := fresh_of_stays hgL hgc
  obtain ⟨slc, hoc'⟩ := KP.up Lc oc hoc
  have hNs : s'.heap.Ns L m := by
    obtain ⟨o, es, ep, ho, hd, r⟩ := F.ns
    obtain ⟨sl, q⟩ := KP.up L o ho
    exact ⟨_, es, ep, q, hd, r⟩
  have hff : s'.heap.FunFrames hR [envOf name scope L a cd, envL] :=
    Heap.FunFrames.cons (by show scope.kind ≠ .module; rw [hk]; decide) rfl hNs hRL ⟨hkL, ⟨Lc, _, hfL, hRc, hoc', hoc2⟩, trivial⟩
  have hdB : ∀ o, s'.heap.get? d = some o → (hideAll s'.heap [e, T0]).get? d = some o := fun o eo => hideAll_get _ eo (fun hm => by
    rcases List.mem_cons.mp hm with q | q
    · exact hde q
    · exact hTd (List.mem_singleton.mp q).symm)
  refine note_exc (base := hR) (B := hideAll s'.heap [e, T0]) (outer := [envL]) (L := L) (Around.frames_deeper hfr) hff rfl (Kept.of_keeps fun b o eb => of_hideAll _ eb) (hideAll_none _ (.head _))
    ⟨vs0, T0, oT0, ts0, q1, q2, q3, hideAll_none _ (.tail _ (.head _)), q5, q6, q7, q8⟩ fun h₄ K₄ FL₄ => ?_
  refine flight_exc K₄ FL₄ fun h₅ K₅ FL₅ => ?_
  have F₅ := fr_kept F (KP.hide hl2 K₅) hS
  obtain ⟨vs5, T5, oT5, ts5, w1, w2, w3, w4, w5, w6, w7, w8⟩ := id FL₅
  refine wpAny_handleBy_cons (codeAny_handlers_test (name_K F₅ XK T ex ?_ hk hx hdb)) (by intro q; cases q)
  refine wpAny_excMatches_sub_self (F₅.keep _ _ (X _ _ gf_cls)) w1 rfl (by decide +kernel) (codeAny_handlers_suite_as ?_)
  refine flight_exc K₅ FL₅ fun h₆ K₆ FL₆ => ?_
  have K6 := KP.hide hl2 K₆
  have F₆ := fr_kept F K6 hS
  have ns₆ : h₆.Ns1 d mA := ns.at fun o eo => K₆.keep d o hdS (hdB o eo)
  obtain ⟨vs6, T6, oT6, ts6, z1, z2, z3, z4, z5, z6, z7, z8⟩ := id FL₆
  obtain ⟨sl6, hoc6⟩ := K6.up Lc oc hoc
  obtain ⟨od, esd, epd, hod, hdd, rd⟩ := id ns₆
  have none_g : ∀ {b : Addr}, h.get? b = none → g.get? b = none := fun {b} e => by
    cases q : g.get? b with
    | none => rfl
    | some o => have := F.keep b o q; rw [this] at e; cases e
  have ne_L : ∀ {b : Addr}, h.get? b = none → b ≠ L := fun {b} e q => by
    obtain ⟨oL, _, _, hoL, _⟩ := F.ns
    rw [q, hoL] at e; cases e
  have N₆ : News g L h₆ [(e, { cls := .ref 45, dict := some d, data := .fields vs6 }), (d, od), (Lc, { oc with slots := sl6 })] := fun p hp => by
    simp only [List.mem_cons, List.mem_nil_iff, or_false] at hp
    rcases hp with rfl | rfl | rfl
    · exact ⟨z1, ne_L he0, none_g he0⟩
    · exact ⟨hod, ne_L hd0, none_g hd0⟩
    · exact ⟨hoc6, hcL, hgc⟩
  refine stN F₆ N₆ (fun h₇ F₇ N₇ => ?_) hk hlo
  exact k h₇ sl6 _ F₇ (fun q hq => N₇ q (by rw [List.mem_singleton.mp hq]; exact .tail _ (.tail _ (.head _)))) ⟨⟨vs6, (N₇ _ (.head _)).1⟩, hde, ns₆.at fun o eo => by rw [hod] at eo; cases eo; exact (N₇ _ (.tail _ (.head _))).1⟩
end Mine
end R7

section F13
open PySem PySem.W PyProof.Rows PySem.Spec PySem.Calls
set_option maxHeartbeats 20000000
namespace Mine
theorem topOffF13 : True := by
  w_top off
  trivial
local macro_rules | `(tactic| k_all) => `(tactic| assumption)
local macro_rules | `(tactic| walk_at "subscriptTail") => `(tactic| (k_here; (with_reducible show wpAny _ _ (subscriptTail _ _ (Value.ref _) (Value.int 1 _)) _ _ _); k_dflt (refine' item_base1 ?k1 ?k2 ?_ ?k4; (case k4 => with_unfolding_all rfl); (case k1 => k_asm); (case k2 => assumption); k_whole)))
local macro_rules | `(tactic| walk_at "subscriptTail") => `(tactic| (k_here; (with_reducible show wpAny _ _ (subscriptTail _ _ (Value.ref _) (Value.int 0 _)) _ _ _); k_dflt (refine' item_base0 ?k1 ?k2 ?_ ?k4; (case k4 => with_unfolding_all rfl); (case k1 => k_asm); (case k2 => assumption); k_whole)))
theorem starts_use {w : World} {mean : ExcName → Option Value} {mg mb : Str → Option Value} {hR g : Heap} {dp un : Nat} {fr : Option (List Env)} {gd : Option (List Code)} {s : Shared} {Q E : Value → Shared → Prop} {L a : Addr} {m : Str → Option Value} {news : List (Addr × Obj)}
    {b : Bg} {ks : Ts} {bb : Bool}
    (X : (hd.heap_39 w.params).In hR) (T : Top hd.view_39 (looseW hd.view_39 [Str.ofString "ChanError"]) mean mg mb hR) (stg : hR.StaysIn g) (F : Fr g L s.heap m) (N : News g L s.heap news) (hd : dp + 10 < recursionLimit) (hu : un + 100 < cLine)
    (hat : At hR g (.mk b ks) (.ref a)) (hb : b.lev.isSome = bb)
    (ret : ∀ h' tk', Fr g L h' m → News g L h' news → Q (.bool bb) { s with heap := h', toks := tk' }) :
    wpAny (model PySem.Challenge.rw_pq0225_01.row.prog w) (Ar dp un fr gd) (call (.ref 54) [.ref a]) Q E s := by
  subst hb
  obtain ⟨a', bv, kv, n, e, ho, hn, hz, hb, hk⟩ := At.mono (KeepT.of_keep fun b o e => F.keep b o e) hat
  cases e
  exact starts_ok X T (fun b o e => F.keep b o (stg b o e)) hd hu ho hn (head_of hb hk) hz fun h' tk' k => ret h' tk' (fr_all F k) (news_all N k)
local macro_rules | `(tactic| walk_at "call ref") => `(tactic| (k_here; (with_reducible show wpAny _ _ (call (Value.ref 54) _) _ _ _); (refine' starts_use ?kx ?kt ?ks ?k1 ?k2 ?k3 ?k4 ?k5 ?k6 ?_; (case k1 => k_asm); (case k2 => k_asm); (case k5 => assumption); (case k6 => assumption); (case ks => assumption); (case kx => assumption); (case kt => assumption); (case k3 => ((try dsimp only [Ar]); omega)); (case k4 => ((try dsimp only [Ar]); omega))); intro h9 tk9 F9 N9))
local macro_rules | `(tactic| walk_at "exec While") => `(tactic| (k_here; (refine' stop ?_)))
local macro_rules | `(tactic| walk_at "exec While Compare") => `(tactic| (k_here; (refine' stop ?_)))
local macro_rules | `(tactic| walk_at "exec Raise some none") => `(tactic| (k_here; (refine' stop ?_)))
local macro_rules | `(tactic| walk_at "pyIter ref") => `(tactic| (k_here; (refine' stop ?_)))
local macro_rules | `(tactic| walk_at "eval ListComp") => `(tactic| (k_here; (refine' comp_inv (cl := ?cl) ?hclos ?hcell ?hkind ?hnames ?hx ?_ ?hs); (case hclos => with_unfolding_all rfl); (case hcell => decide); (case hkind => with_unfolding_all rfl); (case hnames => decide); (case hx => with_unfolding_all rfl); (case hs => intro _; with_unfolding_all rfl)))
local macro_rules | `(tactic| walk_at "compareOp NotEq ref ref") => `(tactic| (k_here; (refine' ne_snoc ?k1 ?k2 ?k3 ?k4 ?_; (case k1 => k_asm); (case k2 => k_mem); (case k3 => k_mem); (case k4 => exact hun0 (by omega)))))
local macro_rules | `(tactic| walk_at "compareOp NotEq ref ref") => `(tactic| (k_here; (refine' ne_nil' ?k1 ?k2 ?k3 ?k4 ?_; (case k1 => k_asm); (case k2 => k_mem); (case k3 => k_mem); (case k4 => exact hun0 (by omega)))))
local macro_rules | `(tactic| walk_at "call builtin:list.pop") => `(tactic| (k_here; (refine' pop_last ?k1 ?k2 ?k3 ?k4 ?_; (case k1 => k_asm); (case k2 => k_asm); (case k3 => (intro o9; k_upd)); (case k4 => assumption)); intro h9 F9 N9))
local macro_rules | `(tactic| walk_at "subscriptTail Name Slice ref ref") => `(tactic| (k_here; k_dflt (refine' slice_tuple_rev ?k1 ?k2 ?k3 ?k4 ?_ ?k5 ?k6; (case k1 => k_asm); (case k2 => k_asm); (case k3 => assumption); (case k4 => assumption); (case k5 => with_unfolding_all rfl); (case k6 => kmk_pure)); intro D9 h9 F9 N9 l9; (try k_lt l9)))
local macro_rules | `(tactic| walk_at "call builtin:list.extend") => `(tactic| (k_here; (refine' extend_any ?k1 ?k2 ?k3 ?k4 ?k5 ?_; (case k1 => k_asm); (case k2 => k_asm); (case k3 => k_mem); (case k4 => (intro o9; k_upd)); (case k5 => assumption)); intro h9 n9 F9 N9))
local macro_rules | `(tactic| walk_at "call builtin:isinstance") => `(tactic| (k_here; (with_reducible show wpAny _ _ (call _ [Value.ref _, Value.type "tuple"]) _ _ _); (refine' isi_at ?k1 ?k2 ?_; (case k1 => k_asm); (case k2 => assumption))))
local macro_rules | `(tactic| walk_at "newTuple") => `(tactic| (k_here; (refine' newTup_K3 ?F ?N ?_ ?z; (case F => k_asm); (case N => k_asm); (case z => kmk_size)); intro D' h' F' N' l1 kp9; (try k_lt l1)))
def fmsg (b : Bool) : Str := if b then Str.ofString "too many levels within one another" else Str.ofString "too many parts"
theorem check_ok {w : World} {mean : ExcName → Option Value} {mg mb : Str → Option Value} {hR : Heap} {dp un : Nat} {fr : Option (List Env)} {gd : Option (List Code)} {s : Shared} {Q E : Value → Shared → Prop} {t : T} {v : Value} {B0 B1 : Int} {tb0 tb1 : Tok} {outer : List Env}
    (X : (hd.heap_39 w.params).In hR) (T : Top hd.view_39 (looseW hd.view_39 [Str.ofString "ChanError"]) mean mg mb hR) (st : hR.StaysIn s.heap) (hd : dp + 50 < recursionLimit) (hu : un + 200 < cLine)
    (hat : At hR s.heap t v) (hsz : t.size ≤ 10000) (hfr : fr = some outer) (hff : s.heap.FunFrames hR outer)
    (retN : ∀ h' tk', (∀ b o, s.heap.get? b = some o → h'.get? b = some o) → (t.gone B0 B1 0 0 0).1 = none → Q .none { s with heap := h', toks := tk' })
    (retE : ∀ r e d tt tm ts h' tk', (t.gone B0 B1 0 0 0).1 = some r → Kept s.heap (frs outer) h' → Fly s.heap e d tt .none h' → h'.Ns1 d (xMap (fmsg r.1) r.2 tm ts) → d ≠ e → s.heap.get? e = none → s.heap.get? d = none → E (.ref e) { s with heap := h', toks := tk' }) :
    wpAny (model PySem.Challenge.rw_pq0225_01.row.prog w) (Ar dp un fr gd) (call (.ref 59) [v, .int B0 tb0, .int B1 tb1]) Q E s := by
  have X0 := X
  obtain ⟨a, rfl⟩ := at_ref hat
  revert X; k_fill; intro X
  refine' enterC [] X T st (fun _ h => nomatch h) ?k6 ?k7 ?k8 ?k9 ?kB ?kD ?h ?c2 ?c3 ?c4
  case k6 => k_is
  case k7 => k_is
  case k8 => show dp < _; omega
  case k9 => exact BindsTo.of_eq rfl
  case kB => exact rfl
  case kD => decide +kernel
  case c2 => exact rfl
  case c3 => exact rfl
  case c4 => exact rfl
  case h =>
    intro g' L' h' tk' cells' F' N' Y' l1 X' T' stg kG'
    k_lt l1
    k_cells Y'
    (try simp only [List.cons_append, List.nil_append] at N')
    have kG : s.heap.StaysIn g' := fun b o e => kG' b o e (by simp)
    have hg : At hR g' t (.ref a) := At.mono (KeepT.of_keep kG) hat
    (try dsimp only)
    (try k_unmd); (try k_fold)
    have hL0 : s.heap.get? L' = none := by
      cases q : s.heap.get? L' with
      | none => rfl
      | some o => exact absurd (Heap.lt_size (kG _ _ q)) (Nat.not_lt.mpr F'.above)
    have hR0 : hR.get? L' = none := fresh_of_stays stg (Heap.get?_none_of_le F'.above)
    k_steps
    rename Fr _ _ _ _ => F1
    rename News _ _ _ _ => N1
    unfold Stop
    refine While_two (n₀ := t.size) (a0 := 0) (b0 := 0) (Str.ofString "part") (Str.ofString "part") (Str.ofString "many") (Str.ofString "spot") (Str.ofString "left")
      (PredC hR g' (L' + 1) (t.gone B0 B1 0 0 0).1 B0 B1)
      F1 (news_tl N1) rfl ⟨⟨_, rfl⟩, ⟨_, rfl⟩, fun _ _ _ _ _ => rfl⟩ ?hj ?ht
    case hj =>
      refine' PredC.start ?a1 ?a2 ?a3 ?a4 ?a5 ?a6
      case a1 => assumption
      case a2 => k_ne
      case a3 => k_ne
      case a4 => k_ne
      case a5 => exact hg
      case a6 => exact hsz
    case ht =>
      rintro n c p nx uo ui lt pt h₁ tk₁ ⟨st, qs, k, oc, cv, tr, rfl, hoc, hd1, hd2, hd3, hst, hn, hn2, hgo⟩ F2 N2
      clear F1 N1
      cases hst with
      | nil =>
        simp only [List.reverse_nil] at N2
        k_steps
        rename Fr _ _ _ _ => F2
        exact retN _ _ (fun b o e => F2.keep b o (kG b o e)) hgo
      | @cons x q st qs hx hst =>
        obtain ⟨q, a1, tk1, k1, rfl, hq, hat1⟩ := hx
        obtain ⟨⟨b, ks⟩, lv⟩ := x
        rw [List.reverse_cons] at N2
        have hqD := hd1 _ hq
        have hqc := hd2 _ hq
        dsimp only at hqD hqc hat1
        have hqq := N2 _ (List.Mem.tail _ (List.Mem.tail _ hq))
        have hlen : (qs.reverse ++ [Value.ref q]).length ≤ 10000 := by
          have h1 := length_weight ((Mine.T.mk b ks, lv) :: st)
          rw [List.length_append, List.length_reverse, hst.length]
          simp only [List.length_cons] at h1 ⊢
          simp only [List.length_nil]; omega
        have hst0 := hst.imp (OnL.toH N2 (fun p hp => List.Mem.tail _ (List.Mem.tail _ hp)))
        replace N2 : News g' L' h₁ ((q, tupO [.ref a1, .int lv tk1] k1) :: _) := fun p hp => (List.mem_cons.mp hp).elim (fun e => e ▸ hqq) (N2 p)
        obtain ⟨a1', bv, kv, na, ea, ho, hn0, hz, hb, hk⟩ := id hat1
        cases ea
        have hks : (bv ++ kv).reverse.length ≤ 1000 := by rw [List.length_reverse]; exact hz
        have hits := (items_of hb hk).reverse
        cases hlev : b.lev with
        | none =>
          have hiss : b.lev.isSome = false := by rw [hlev]; rfl
          k_steps
          · unfold Stop
            refine raise_gf rfl ?_
            k_steps
            refine ⟨rfl, ?_⟩
            k_steps
            rename Fr _ _ _ _ => F1
            rename (B0 < _) => hq1
            refine raise_out (outer := outer) X0 T stg kG F1 hL0 hR0 hfr hff rfl (by show ScopeKind.function ≠ ScopeKind.module; decide) (by omega) ?_
            intro e d tt h9 tk9 K9 FL9 ns9 hde he0 hd0
            exact retE (true, p) e d tt _ _ h9 tk9 (hgo.trans (goneS_lev0 hlev hq1)) K9 FL9 ns9 hde he0 hd0
          · unfold Stop
            refine raise_gf rfl ?_
            k_steps
            refine ⟨rfl, ?_⟩
            k_steps
            rename Fr _ _ _ _ => F1
            rename (¬ B0 < _) => hq1
            rename (B1 < _) => hq2
            have hq2' : B1 < c + 1 := hq2
            refine raise_out (outer := outer) X0 T stg kG F1 hL0 hR0 hfr hff rfl (by show ScopeKind.function ≠ ScopeKind.module; decide) (by omega) ?_
            intro e d tt h9 tk9 K9 FL9 ns9 hde he0 hd0
            exact retE (false, p) e d tt _ _ h9 tk9 (hgo.trans (goneS_par0 hlev hq1 hq2')) K9 FL9 ns9 hde he0 hd0
          · unfold Stop
            rename Fr _ _ _ _ => F1
            rename News _ _ _ _ => N1
            rename (¬ B0 < _) => hq1
            rename (¬ B1 < _) => hq2
            have hD9 := N1 _ (List.Mem.head _)
            refine tup_comp1 (fun i ys h => Stk (OnH hR g' h) (firsts (items b ks).reverse lv i) ys) rfl hD9.1 hks .nil (fun i ys h h' j kt => j.imp (OnH.mono kt)) ?ga ?gd
            case ga =>
              intro C i v h₃ tk₃ m₃ ys E' hC hv hns hm hj hys hk3
              have F3 : Fr g' C h₃ m₃ := ⟨hns, fun b o eb => hk3 b o (F1.keep b o eb), Nat.le_trans F1.above (Nat.le_trans (Nat.le_of_lt F1.ns.lt) hC)⟩
              have N3 := news_turn N1 hC hk3
              clear F1 N1 hD9
              (try clear F2); (try clear N2)
              rcases hits.get hv with ⟨hp, hi⟩ | ⟨t, hatt, hi⟩
              · cases v with
                | str c t =>
                  k_steps
                  exact ⟨⟨_, _, rfl, fun _ _ _ e => e⟩, by rw [firsts_none hi]; exact hj⟩
                | int c t =>
                  k_steps
                  exact ⟨⟨_, _, rfl, fun _ _ _ e => e⟩, by rw [firsts_none hi]; exact hj⟩
                | none =>
                  k_steps
                  exact ⟨⟨_, _, rfl, fun _ _ _ e => e⟩, by rw [firsts_none hi]; exact hj⟩
                | _ => exact hp.elim
              · obtain ⟨v, rfl⟩ := at_ref hatt
                k_steps
                refine ⟨⟨_, _, rfl, fun _ _ _ e => e⟩, ?_⟩
                rw [if_pos rfl]
                k_steps
                rename News _ _ _ _ => N9
                have zz := N9 _ (List.Mem.head _)
                rename (∀ (b : Addr) (o : Obj), Heap.get? _ b = some o → Heap.get? _ b = some o) => kp9
                refine ⟨⟨_, _, rfl, fun b o _ e => kp9 b o e⟩, ?_⟩
                rw [firsts_some hi]
                exact (hj.imp (OnH.mono (KeepT.of_keep kp9))).append (.cons ⟨_, v, _, _, rfl, zz.1, zz.2.2, hatt⟩ .nil)
            case gd =>
              intro D2 h' tk ys hD2 hpl hys hj hk3
              obtain ⟨ln, hpl⟩ := hpl
              rw [firsts_all b ks lv _ (by have z := hits.length; simp only [List.length_reverse] at z ⊢; omega)] at hj
              have F4 := fr_all F1 hk3
              have N4 := news_all N1 hk3
              obtain ⟨ysl⟩ := ys
              rename (Obj.data _ = Data.cell _) => hd'
              obtain ⟨tr', htr, N5, e1, e2, e3, e4⟩ := news_gd2 (ysl := ysl) F1 N1 F4 N4 hD2 hpl (.tail _ (.tail _ (.tail _ (.head _)))) (.tail _ (.tail _ (.tail _ (.tail _ (.head _))))) hd'
              have hqs := hst.imp (OnL.toH N4 (fun p hp => .tail _ (.tail _ (.tail _ (.tail _ (.tail _ hp))))))
              have hsz9 : qs.reverse.length + ysl.length ≤ 10000 := sz_next hn hn2 hst hj
              clear N1 N4 F1
              (try clear F2); (try clear N2)
              k_steps
              rename Fr _ _ _ _ => F9
              rename News _ _ _ _ => N9
              refine ⟨rfl, _, _, _, _, _, _, _, _, rfl, F9, N9, (fun p hp => List.Mem.tail _ hp), weight_next hn (lv' := lv), PredC.next hd' e1 e2 hd3 htr hj hqs rfl (wt_next hn hn2) (hgo.trans (goneS_on0 hlev hq1 hq2)), ⟨_, rfl⟩, ⟨_, rfl⟩, fun z h1 h2 h3 h4 => by simp only [if_neg h1, if_neg h3, if_neg h4]⟩
        | some i =>
          have hiss : b.lev.isSome = true := by rw [hlev]; rfl
          obtain ⟨v0, u0, ebv⟩ := lev_vals hlev hb
          subst ebv
          simp only [List.cons_append, List.nil_append] at ho hz hks hits
          k_steps
          · unfold Stop
            refine raise_gf rfl ?_
            k_steps
            refine ⟨rfl, ?_⟩
            k_steps
            rename Fr _ _ _ _ => F1
            rename (B0 < _) => hq1
            refine raise_out (outer := outer) X0 T stg kG F1 hL0 hR0 hfr hff rfl (by show ScopeKind.function ≠ ScopeKind.module; decide) (by omega) ?_
            intro e d tt h9 tk9 K9 FL9 ns9 hde he0 hd0
            exact retE (true, i) e d tt _ _ h9 tk9 (hgo.trans (goneS_lev1 hlev hq1)) K9 FL9 ns9 hde he0 hd0
          · unfold Stop
            refine raise_gf rfl ?_
            k_steps
            refine ⟨rfl, ?_⟩
            k_steps
            rename Fr _ _ _ _ => F1
            rename (¬ B0 < _) => hq1
            rename (B1 < _) => hq2
            have hq2' : B1 < c + 1 := hq2
            refine raise_out (outer := outer) X0 T stg kG F1 hL0 hR0 hfr hff rfl (by show ScopeKind.function ≠ ScopeKind.module; decide) (by omega) ?_
            intro e d tt h9 tk9 K9 FL9 ns9 hde he0 hd0
            exact retE (false, i) e d tt _ _ h9 tk9 (hgo.trans (goneS_par1 hlev hq1 hq2')) K9 FL9 ns9 hde he0 hd0
          · unfold Stop
            rename Fr _ _ _ _ => F1
            rename News _ _ _ _ => N1
            rename (¬ B0 < _) => hq1
            rename (¬ B1 < _) => hq2
            have hD9 := N1 _ (List.Mem.head _)
            refine tup_comp1 (fun i' ys h => Stk (OnH hR g' h) (firsts (items b ks).reverse (lv + 1) i') ys) rfl hD9.1 hks .nil (fun i' ys h h' j kt => j.imp (OnH.mono kt)) ?ga ?gd
            case ga =>
              intro C i v h₃ tk₃ m₃ ys E' hC hv hns hm hj hys hk3
              have F3 : Fr g' C h₃ m₃ := ⟨hns, fun b o eb => hk3 b o (F1.keep b o eb), Nat.le_trans F1.above (Nat.le_trans (Nat.le_of_lt F1.ns.lt) hC)⟩
              have N3 := news_turn N1 hC hk3
              clear F1 N1 hD9
              (try clear F2); (try clear N2)
              rcases hits.get hv with ⟨hp, hi⟩ | ⟨t, hatt, hi⟩
              · cases v with
                | str c t =>
                  k_steps
                  exact ⟨⟨_, _, rfl, fun _ _ _ e => e⟩, by rw [firsts_none hi]; exact hj⟩
                | int c t =>
                  k_steps
                  exact ⟨⟨_, _, rfl, fun _ _ _ e => e⟩, by rw [firsts_none hi]; exact hj⟩
                | none =>
                  k_steps
                  exact ⟨⟨_, _, rfl, fun _ _ _ e => e⟩, by rw [firsts_none hi]; exact hj⟩
                | _ => exact hp.elim
              · obtain ⟨v, rfl⟩ := at_ref hatt
                k_steps
                refine ⟨⟨_, _, rfl, fun _ _ _ e => e⟩, ?_⟩
                rw [if_pos rfl]
                k_steps
                rename News _ _ _ _ => N9
                have zz := N9 _ (List.Mem.head _)
                rename (∀ (b : Addr) (o : Obj), Heap.get? _ b = some o → Heap.get? _ b = some o) => kp9
                refine ⟨⟨_, _, rfl, fun b o _ e => kp9 b o e⟩, ?_⟩
                rw [firsts_some hi]
                exact (hj.imp (OnH.mono (KeepT.of_keep kp9))).append (.cons ⟨_, v, _, _, rfl, zz.1, zz.2.2, hatt⟩ .nil)
            case gd =>
              intro D2 h' tk ys hD2 hpl hys hj hk3
              obtain ⟨ln, hpl⟩ := hpl
              rw [firsts_all b ks (lv + 1) _ (by have z := hits.length; simp only [List.length_reverse] at z ⊢; omega)] at hj
              have F4 := fr_all F1 hk3
              have N4 := news_all N1 hk3
              obtain ⟨ysl⟩ := ys
              rename (Obj.data _ = Data.cell _) => hd'
              obtain ⟨tr', htr, N5, e1, e2, e3, e4⟩ := news_gd2 (ysl := ysl) F1 N1 F4 N4 hD2 hpl (.tail _ (.tail _ (.tail _ (.tail _ (.head _))))) (.tail _ (.tail _ (.tail _ (.tail _ (.tail _ (.head _)))))) hd'
              have hqs := hst.imp (OnL.toH N4 (fun p hp => .tail _ (.tail _ (.tail _ (.tail _ (.tail _ (.tail _ hp)))))))
              have hsz9 : qs.reverse.length + ysl.length ≤ 10000 := sz_next hn hn2 hst hj
              clear N1 N4 F1
              (try clear F2); (try clear N2)
              k_steps
              rename Fr _ _ _ _ => F9
              rename News _ _ _ _ => N9
              refine ⟨rfl, _, _, _, _, _, _, _, _, rfl, F9, N9, (fun p hp => List.Mem.tail _ hp), weight_next hn (lv' := lv + 1), PredC.next hd' e1 e2 hd3 htr hj hqs rfl (wt_next hn hn2) (hgo.trans (goneS_on1 hlev hq1 hq2)), ⟨_, rfl⟩, ⟨_, rfl⟩, fun z h1 h2 h3 h4 => by simp only [if_neg h1, if_neg h3, if_neg h4]⟩
end Mine
end F13

section F14
open PySem PySem.W PyProof.Rows PySem.Spec PySem.Calls
set_option maxHeartbeats 8000000
namespace Mine
theorem topOffF14 : True := by
  w_top off
  trivial
local macro_rules | `(tactic| k_all) => `(tactic| assumption)
local macro_rules | `(tactic| walk_at "subscriptTail") => `(tactic| (k_here; (with_reducible show wpAny _ _ (subscriptTail _ _ (Value.ref _) (Value.int 1 _)) _ _ _); k_dflt (refine' item_base1 ?k1 ?k2 ?_ ?k4; (case k4 => with_unfolding_all rfl); (case k1 => k_asm); (case k2 => assumption); k_whole)))
local macro_rules | `(tactic| walk_at "subscriptTail") => `(tactic| (k_here; (with_reducible show wpAny _ _ (subscriptTail _ _ (Value.ref _) (Value.int 0 _)) _ _ _); k_dflt (refine' item_base0 ?k1 ?k2 ?_ ?k4; (case k4 => with_unfolding_all rfl); (case k1 => k_asm); (case k2 => assumption); k_whole)))
local macro_rules | `(tactic| walk_at "call ref") => `(tactic| (k_here; (with_reducible show wpAny _ _ (call (Value.ref 59) _) _ _ _); (refine' stop ?_)))
theorem xm_msg {msg : Str} {sp : Int} {tm ts : Tok} : xMap msg sp tm ts (Str.ofString "message") = some (.str msg tm) := by
  have h : ¬ (Str.ofString "message" = Str.ofString "spot") := by decide +kernel
  simp only [xMap, if_neg h, if_true]
theorem xm_spot {msg : Str} {sp : Int} {tm ts : Tok} : xMap msg sp tm ts (Str.ofString "spot") = some (.int sp ts) := by simp only [xMap, if_true]
local macro_rules | `(tactic| walk_at "getAttr ref") => `(tactic| (k_here; (refine' get_xg ?kx ?k1 ?k2 ?k3 ?k4 ?_; (case k1 => assumption); (case kx => exact PySem.W.Frag.In.keeps (by assumption) (Fr.keep (by k_asm))); (case k2 => first | exact gf_msg | exact gf_spot); (case k3 => first | exact xm_msg | exact xm_spot); (case k4 => rfl))))
theorem occ_false : (Builtin.Str.occurrences (fmsg false) (Str.ofString "levels") 0 (fmsg false).length 1).isEmpty = true := by decide +kernel
theorem occ_true : (Builtin.Str.occurrences (fmsg true) (Str.ofString "levels") 0 (fmsg true).length 1).isEmpty = false := by decide +kernel
theorem told_ok {w : World} {mean : ExcName → Option Value} {mg mb : Str → Option Value} {hR : Heap} {dp un : Nat} {fr : Option (List Env)} {gd : Option (List Code)} {s : Shared} {Q E : Value → Shared → Prop} {t : T} {v : Value} {B0 B1 : Int} {tb0 tb1 : Tok} {bd Lc : Addr} {nb : Nat} {envL : Env} {oc : Obj}
    (X : (hd.heap_39 w.params).In hR) (T : Top hd.view_39 (looseW hd.view_39 [Str.ofString "ChanError"]) mean mg mb hR) (st : hR.StaysIn s.heap) (hd : dp + 100 < recursionLimit) (hu : un + 300 < cLine)
    (hat : At hR s.heap t v) (hsz : t.size ≤ 10000) (hbd : s.heap.get? bd = some (tupO [.int B0 tb0, .int B1 tb1] nb)) (hfr : fr = some [envL]) (hkL : envL.scope.kind ≠ .module) (hfL : envL.frame = some Lc)
    (hoc : s.heap.get? Lc = some oc) (hoc2 : ∀ vs, oc.data ≠ .fields vs) (hoc3 : ∀ vs n, oc ≠ tupO vs n) (hc0 : hR.get? Lc = none)
    (retN : ∀ h' tk', (∀ b o, s.heap.get? b = some o → h'.get? b = some o) → (t.gone B0 B1 0 0 0).1 = none → Q .none { s with heap := h', toks := tk' })
    (retS : ∀ r a k t1 t2 sl h' tk', (∀ b o, b ≠ Lc → s.heap.get? b = some o → h'.get? b = some o) → h'.get? Lc = some { oc with slots := sl } → (t.gone B0 B1 0 0 0).1 = some r → h'.get? a = some (tupO [.str (word r.1) t1, .int r.2 t2] k) → s.heap.get? a = none → Q (.ref a) { s with heap := h', toks := tk' }) :
    wpAny (model PySem.Challenge.rw_pq0225_01.row.prog w) (Ar dp un fr gd) (call (.ref 127) [v, .ref bd]) Q E s := by
  have X0 := X
  obtain ⟨a, rfl⟩ := at_ref hat
  revert X; k_fill; intro X
  refine' enter [(Lc, oc)] X T st (hide1 hoc hc0) ?k6 ?k7 ?k8 ?k9 ?kB ?h ?c2 ?c3 ?c4 ?c5
  case k6 => k_is
  case k7 => k_is
  case k8 => show dp < _; omega
  case k9 => exact BindsTo.of_eq rfl
  case kB => exact locs rfl
  case c2 => exact rfl
  case c3 => exact rfl
  case c4 => exact rfl
  case c5 => decide
  case h =>
    intro g' L' h' F' N' l1 X' T' stg kG'
    k_lt l1
    have kT : KeepT s.heap g' := fun b vs m eb => kG' b _ eb (fun hm => by
      have q : b = Lc := by simpa using hm
      rw [q, hoc] at eb
      exact hoc3 vs m (Option.some.inj eb))
    have hg : At hR g' t (.ref a) := At.mono kT hat
    have hbg := kT _ _ _ hbd
    dsimp only
    (try k_unmd); (try k_fold)
    k_steps
    unfold Stop
    have hRL : hR.get? L' = none := fresh_of_stays stg (Heap.get?_none_of_le F'.above)
    have hcL := (N' _ (.head _)).2.1
    have hgc := (N' _ (.head _)).2.2
    have hat' : At hR h' t (.ref a) := At.mono (KeepT.of_keep F'.keep) hg
    refine check_ok (dp := dp + 1) (un := un + 3) (outer := [?eT, envL]) X0 T (fun b o eb => F'.keep b o (stg b o eb)) (by omega) (by omega) hat' hsz ?hfr ?hff ?tN ?tE
    case hfr => exact Around.frames_deeper (A := Ar dp un fr gd) hfr
    case hff => exact Heap.FunFrames.cons (by show ScopeKind.function ≠ ScopeKind.module; decide) rfl F'.ns hRL ⟨hkL, ⟨Lc, oc, hfL, hc0, (N' _ (.head _)).1, hoc2⟩, trivial⟩
    case tN =>
      intro h9 tk9 k9 e9
      have F9 := fr_all F' k9
      have N9 := news_all N' k9
      clear F' N'
      k_steps
      refine retN _ _ (fun b o eb => ?_) e9
      by_cases q : b = Lc
      · rw [q, hoc] at eb; cases eb; rw [q]; exact (N9 _ (.head _)).1
      · exact F9.keep b o (kG' b o eb (by simpa using q))
    case tE =>
      intro r e d tt tm ts h9 tk9 hgo K9 FL9 ns9 hde he0 hd0
      dsimp only
      refine caught_gf (Lc := Lc) (X0.keeps (fun b o eb => stg b o eb)) X' (topRead_of T') F' stg hfr hkL hfL (N' _ (.head _)).1 hoc2 hgc hcL (by k_is) K9 FL9 ns9 hde he0 hd0 ?_
      intro h8 sl tk F8 N8 x8
      clear F' N'
      have X1 : (Mine.hd.heap_39 w.params).In g' := X0.keeps (fun b o eb => stg b o eb)
      clear K9 FL9 ns9
      obtain ⟨rb, ri⟩ := r
      cases rb with
      | false =>
        k_steps
        · rename Fr _ _ _ _ => F9
          rename News _ _ _ _ => N9
          rename (Lc < _) => l9
          exact retS (false, ri) _ _ _ _ sl _ _ (fun b o hb eb => F9.keep b o (kG' b o eb (by simpa using hb))) (N9 _ (.tail _ (.head _))).1 hgo (N9 _ (.head _)).1 (freshH kG' N9 (.head _) (fun q hq => by rw [List.mem_singleton.mp hq]; exact Nat.ne_of_lt l9))
        · rename (List.isEmpty _ = false) => q9
          rw [occ_false] at q9; cases q9
      | true =>
        k_steps
        · rename (List.isEmpty _ = true) => q9
          rw [occ_true] at q9; cases q9
        · rename Fr _ _ _ _ => F9
          rename News _ _ _ _ => N9
          rename (Lc < _) => l9
          exact retS (true, ri) _ _ _ _ sl _ _ (fun b o hb eb => F9.keep b o (kG' b o eb (by simpa using hb))) (N9 _ (.tail _ (.head _))).1 hgo (N9 _ (.head _)).1 (freshH kG' N9 (.head _) (fun q hq => by rw [List.mem_singleton.mp hq]; exact Nat.ne_of_lt l9))
end Mine
end F14

section P1
open PySem PySem.W PyProof.Rows PySem.Spec PySem.Calls
set_option maxHeartbeats 200000
namespace Mine
mutual
/-- within its own bounds no part is gone too far -/
theorem T.gone_fits (B0 B1 : Int) : ∀ (t : T) (lv c p : Int), lv + t.lev ≤ B0 → c + t.size ≤ B1 → ∃ p', t.gone B0 B1 lv c p = (none, c + t.size, p')
  | .mk b ks, lv, c, p, h1, h2 => by
    have hn := Ts.mlev_nn ks
    simp only [T.lev] at h1
    simp only [T.size] at h2 ⊢
    have a1 : ¬ (lv + (if b.lev.isSome then 1 else 0)) > B0 := by omega
    have a2 : ¬ c + 1 > B1 := by omega
    obtain ⟨p', e⟩ := Ts.gone_fits B0 B1 ks (lv + (if b.lev.isSome then 1 else 0)) (c + 1) (b.lev.getD p) (by omega) (by omega)
    refine ⟨p', ?_⟩
    simp only [T.gone, if_neg a1, if_neg a2, e, Prod.mk.injEq, true_and, and_true]
    omega
theorem Ts.gone_fits (B0 B1 : Int) : ∀ (ts : Ts) (lv c p : Int), lv + ts.mlev ≤ B0 → c + ts.size ≤ B1 → ∃ p', ts.gone B0 B1 lv c p = (none, c + ts.size, p')
  | .nil, lv, c, p, _, _ => ⟨p, by simp [Ts.gone, Ts.size]⟩
  | .cons t ts, lv, c, p, h1, h2 => by
    simp only [Ts.mlev] at h1
    simp only [Ts.size] at h2 ⊢
    obtain ⟨p1, e1⟩ := T.gone_fits B0 B1 t lv c p (by omega) (by omega)
    obtain ⟨p2, e2⟩ := Ts.gone_fits B0 B1 ts lv (c + t.size) p1 (by omega) (by omega)
    refine ⟨p2, ?_⟩
    simp only [Ts.gone, e1, e2, Prod.mk.injEq, true_and, and_true]
    omega
end
theorem fits_none (t : T) : (t.gone t.lev t.size 0 0 0).1 = none := by
  obtain ⟨p, e⟩ := T.gone_fits t.lev t.size t 0 0 0 (by omega) (by omega)
  rw [e]
/-- the tree of the law's first line -/
def T0 : T := .mk .e (.cons (.mk (.lvk 5) (.cons (.mk (.lvk 6) .nil) .nil)) (.cons (.mk (.lvk 7) (.cons (.mk (.lvk 8) .nil) .nil)) .nil))
theorem T0_gone : (T0.gone 1 9 0 0 0).1 = some (true, 6) := by
  simp [T0, T.gone, Ts.gone, Bg.lev]
end Mine
end P1

section T8
open PySem PySem.W PyProof.Rows PySem.Spec PySem.Calls
set_option maxHeartbeats 200000
namespace Mine
/-- a tree that stands wherever these tuples stand -/
def AtBy (hR : Heap) (tr : List (Addr × Obj)) (t : T) (v : Value) : Prop := ∀ h : Heap, (∀ p ∈ tr, h.get? p.1 = some p.2) → At hR h t v
theorem AtBy.at {hR h : Heap} {L : Addr} {news tr : List (Addr × Obj)} {t : T} {v : Value} (x : AtBy hR tr t v) (N : News hR L h news) (hs : ∀ p ∈ tr, p ∈ news) : At hR h t v := x h fun p hp => (N p (hs p hp)).1
theorem AtBy.of {hR h : Heap} {tr : List (Addr × Obj)} {t : T} {v : Value} (a : At hR h t v) (e : newTups hR h = tr) : AtBy hR tr t v := by
  subst e
  exact fun h' k => At.monoN (KeepN.of_sub k) a
theorem AtBy.ref {hR h : Heap} {tr : List (Addr × Obj)} {t : T} {v : Value} (x : AtBy hR tr t v) (k : ∀ p ∈ tr, h.get? p.1 = some p.2) : ∃ c, v = .ref c := by
  obtain ⟨b, ks⟩ := t
  obtain ⟨c, _, _, _, e, _⟩ := x h k
  exact ⟨c, e⟩
/-- what a for over a short range keeps, turn by turn -/
theorem for_rng {prog : Program} {w : World} {A : Around} {E : Value → Shared → Prop} {s : Shared} {env : Env} {h₀ : Heap} {x : Str} {body : List Stmt} {Q : Flow → Shared → Prop}
    {r : Addr} {k : Int} {t u v : Tok} {m₀ : Str → Option Value} {news : List (Addr × Obj)} (J : Nat → (Str → Option Value) → List (Addr × Obj) → Prop)
    (hh : A.handled = none) (hr : IsRange s.heap r 0 k 1 t u v) (hk0 : 0 ≤ k) (hk5 : k < 5) (F : Fr h₀ env.locals s.heap m₀) (N : News h₀ env.locals s.heap news) (hj : J 0 m₀ news)
    (turn : ∀ i v m₁ nx h tk own, i < 5 → (∃ t, v = .int (i : Int) t) → TbOff own nx → (∀ p ∈ own, p.2.cls ≠ .type "tuple") → J i m₁ nx → Fr h₀ env.locals h (fun y => if y = x then some v else m₁ y) → News h₀ env.locals h (nx ++ own) →
      wpAny (model prog w) A (execs body env) (TbPost h₀ env.locals (J (i + 1)) own { s with heap := h, toks := tk } Q) E { s with heap := h, toks := tk })
    (done : ∀ m₁ nx h tk, J k.toNat m₁ nx → Fr h₀ env.locals h m₁ → News h₀ env.locals h nx → Q .next { s with heap := h, toks := tk }) :
    wpAny (model prog w) A (pyIter (.ref r)) (fun it s₂ => LoopAtV prog w A h₀ env x body Q E it s₂) E s := by
  have hk' : k = 0 ∨ k = 1 ∨ k = 2 ∨ k = 3 ∨ k = 4 := by omega
  have hsm : Builtin.Range.small 0 k 1 = true := by rcases hk' with rfl | rfl | rfl | rfl | rfl <;> decide +kernel
  have hsz : Builtin.Range.rangeSize 0 k 1 = k := by rcases hk' with rfl | rfl | rfl | rfl | rfl <;> decide +kernel
  refine wpAny_pyIter_range hr hsm ?_
  refine ⟨s.heap.objs.size, [s.heap.objs.size], [s.heap.objs.size], k.toNat, _, _, m₀, news, J, rfl, Walks.range hh _ 0 1 k.toNat, ?_, ?_, ?_, ?_, F.push _, (fun p hp => ⟨Heap.get?_push_of_some _ (N p hp).1, (N p hp).2⟩), hj, ?_, ?_⟩
  · intro hm
    exact absurd F.ns.lt ((List.mem_singleton.mp hm) ▸ Nat.lt_irrefl _)
  · intro b hb
    rw [List.mem_singleton.mp hb]
    exact next_is_new F
  · intro p hp hI
    exact absurd (Heap.lt_size (N p hp).1) ((List.mem_singleton.mp hI) ▸ Nat.lt_irrefl _)
  · show (s.heap.push _).get? s.heap.objs.size = _
    rw [Heap.get?_push_size _ rfl, hsz]
    have e1 : (0 : Int) + ((0 : Nat) : Int) * 1 = 0 := by decide
    have e2 : ((k.toNat : Nat) : Int) - ((0 : Nat) : Int) = k := by omega
    rw [e1, e2]
  · rintro i v m₁ news₁ s₁ own ⟨hh', tk', rfl⟩ hin hP hJ hoff hown hget hmem hst F₁ N₁
    have hI : ∃ oi, (s.heap.objs.size, oi) ∈ own := by
      have hst' : hh'.get? s.heap.objs.size = _ := hst
      exact ⟨_, hmem _ (.head _) (next_is_new F) _ hst'⟩
    have hst' : hh'.get? s.heap.objs.size = _ := hst
    obtain ⟨oi, hI⟩ := hI
    have hsep : TbOff own news₁ := by
      intro p hp q hq e
      have h1 := hown p hp
      exact hoff q hq (by rw [← e]; exact h1)
    have hcls : ∀ p ∈ own, p.2.cls ≠ .type "tuple" := by
      intro p hp e
      have h1 := List.mem_singleton.mp (hown p hp)
      have h2 := hget p hp
      rw [h1, hst'] at h2
      rw [← Option.some.inj h2] at e
      simp at e
    have N₂ : News h₀ env.locals hh' (news₁ ++ own) := fun p hp => N₁ p ((List.mem_append.mp hp).elim (fun h => List.mem_append.mpr (.inr h)) fun h => List.mem_append.mpr (.inl h))
    have hv : ∃ t, v = .int (i : Int) t := by
      obtain ⟨t, e⟩ := hP
      exact ⟨t, by rw [e]; simp⟩
    refine wpAny_mono (turn i v m₁ news₁ hh' tk' own (by omega) hv hsep hcls hJ F₁ N₂) (fun f s₂ p => ?_) fun _ _ e => e
    have fin : TbEnd h₀ env.locals (J (i + 1)) own { s with heap := hh', toks := tk' } s₂ → LoopStepU h₀ env.locals [s.heap.objs.size] own (J (i + 1)) { s with heap := hh', toks := tk' } .next s₂ := by
      rintro ⟨h', tk, m', news', nx, e, F', N', hn, ho, ha, hm⟩
      exact ⟨rfl, h', tk, m', nx, e, F', fun p hp => N' p ((List.mem_append.mp hp).elim (ho p) (hn p)), fun p hp hq => ha _ hI p hp (List.mem_singleton.mp hq).symm, hm⟩
    cases f with
    | ret v => exact .ret p
    | brk => exact .brk p
    | next => exact .next (fin p)
    | cont => exact .cont (fin p)
  · rintro h' tk m' news' F' N' _ hJ
    exact done m' news' h' tk hJ F' N'
end Mine
end T8

section U1
open PySem PySem.W PyProof.Rows PySem.Spec PySem.Calls
set_option maxHeartbeats 200000
namespace Mine
section
variable {w : World} {mean : ExcName → Option Value} {mg mb : Str → Option Value} {hR : Heap} {env : Env} {s : Shared} {Q E : Value → Shared → Prop} {L : Addr} {m : Str → Option Value} {news tr own : List (Addr × Obj)} {l : Addr} {x y : Int} {tx ty tt : Tok} {n : Nat} {t : T} {v : Value}
theorem room1 {k : Nat} (h : 302 + k < 1000 := by decide) : 302 + k < recursionLimit := h
theorem pool_law {a : Addr} {vs : List Value} {ns : List Int} (X : (hd.heap_39 w.params).In hR) (T : Top hd.view_39 (looseW hd.view_39 [Str.ofString "ChanError"]) mean mg mb hR) (F : Fr hR L s.heap m) (N : News hR L s.heap news)
    (hL : hR.IsList a vs.toArray) (hI : IntsAre vs ns) (hlay : (PyData.list (List.map PyData.int ns)).layable0 = true) (hlen : ¬ ((63 : Nat) : Int) < ((ns.length : Nat) : Int))
    (ret : ∀ l x' tx' y' ty' n' h' tk', Fr hR L h' m → News hR L h' [(l, listOf #[.int x' tx', .int y' ty'] n')] → 0 ≤ y' → y' < 2147483647 → Q (.ref l) { s with heap := h', toks := tk' }) :
    wpAny (model PySem.Challenge.rw_pq0225_01.row.prog w) (callerA.deeper env) (call (.ref 66) [.ref a, .int 0 tt]) Q E s := by
  refine pool_ok (dp := 302) (un := 7) (fr := some [env]) (gd := some []) X T (fun b o e => F.keep b o e) room1 hL hI hlay (by omega) ?_
  intro l x' tx' y' ty' n' h' tk' k hl hl0 h0 h1
  refine ret l x' tx' y' ty' n' h' tk' (fr_all F k) (fun p hp => ?_) h0 h1
  rw [List.mem_singleton.mp hp]
  refine ⟨hl, fun q => ?_, ?_⟩
  · obtain ⟨oL, _, _, hoL, _⟩ := F.ns
    simp only at q
    rw [q, hoL] at hl0; cases hl0
  · cases q : hR.get? l with
    | none => rfl
    | some o => have := F.keep _ _ q; rw [this] at hl0; cases hl0
theorem news_src {h' : Heap} {m' : Str → Option Value} {src' : Obj} (F : Fr hR L h' m') (hl : h'.get? l = some src') (hl0 : l ≠ L ∧ hR.get? l = none) : News hR L h' ((l, src') :: newTups hR h') := by
  refine news_tups (news := [(l, src')]) F fun p hp => ?_
  rw [List.mem_singleton.mp hp]; exact ⟨hl, hl0⟩
theorem tree_law (X : (hd.heap_39 w.params).In hR) (T : Top hd.view_39 (looseW hd.view_39 [Str.ofString "ChanError"]) mean mg mb hR) (F : Fr hR L s.heap m) (N : News hR L s.heap news) (hm : (l, listOf #[.int x tx, .int y ty] n) ∈ news) (hy0 : 0 ≤ y) (hy1 : y < 2147483647)
    (ret : ∀ t v x' tx' y' ty' n' h' tk' tr, Fr hR L h' m → News hR L h' ((l, listOf #[.int x' tx', .int y' ty'] n') :: tr) → 0 ≤ y' → y' < 2147483647 → AtBy hR tr t v → (∀ p ∈ tr, p.1 ≠ l) → t.depth ≤ 4 → t.size ≤ 259 → Q v { s with heap := h', toks := tk' }) :
    wpAny (model PySem.Challenge.rw_pq0225_01.row.prog w) (callerA.deeper env) (call (.ref 92) [.ref l, .int 3 tt]) Q E s := by
  have z := N _ hm
  refine tree_ok 3 hR 302 7 (some [env]) (some []) s Q E l x y tx ty n 3 tt X T rfl (fun b o e => F.keep b o e) room1 (by decide +kernel) z.1 z.2.2 hy0 hy1 ?_
  intro t v x' tx' y' ty' n' h' tk' k hl h0 h1 ha hdp hsz
  have F' := fr_keep1 F k z.2.1 z.2.2
  exact ret t v x' tx' y' ty' n' h' tk' _ F' (news_src F' hl z.2) h0 h1 (AtBy.of ha rfl) (newTups_ne hl (by simp)) hdp hsz
theorem around_law (X : (hd.heap_39 w.params).In hR) (T : Top hd.view_39 (looseW hd.view_39 [Str.ofString "ChanError"]) mean mg mb hR) (F : Fr hR L s.heap m) (N : News hR L s.heap ((l, listOf #[.int x tx, .int y ty] n) :: (tr ++ own))) (hy0 : 0 ≤ y) (hy1 : y < 2147483647)
    (ha : AtBy hR tr t v) (ho : ∀ p ∈ own, p.1 ≠ l) (hoc : ∀ p ∈ own, p.2.cls ≠ .type "tuple")
    (ret : ∀ (t' : Mine.T) v' x' tx' y' ty' n' h' tk' tr', Fr hR L h' m → News hR L h' ((l, listOf #[.int x' tx', .int y' ty'] n') :: (tr' ++ own)) → 0 ≤ y' → y' < 2147483647 → AtBy hR tr' t' v' → (∀ p ∈ tr', p.1 ≠ l) → (∀ p ∈ own, ∀ q ∈ tr', p.1 ≠ q.1) → t'.depth ≤ t.depth + 1 → t'.size ≤ 1 + 2 * t.size → Q v' { s with heap := h', toks := tk' }) :
    wpAny (model PySem.Challenge.rw_pq0225_01.row.prog w) (callerA.deeper env) (call (.ref 99) [.ref l, v]) Q E s := by
  have z := N _ (.head _)
  refine around_ok (dp := 302) (un := 7) (fr := some [env]) (gd := some []) X T (fun b o e => F.keep b o e) room1 z.1 z.2.2 hy0 hy1 (ha.at N fun p hp => .tail _ (List.mem_append_left _ hp)) ?_
  intro t' v' x' tx' y' ty' n' h' tk' k hl h0 h1 ha' hdp hsz
  have F' := fr_keep1 F k z.2.1 z.2.2
  have No : ∀ p ∈ own, h'.get? p.1 = some p.2 ∧ p.1 ≠ L ∧ hR.get? p.1 = none := fun p hp => by
    have q := N p (.tail _ (List.mem_append_right _ hp))
    exact ⟨k _ _ (ho p hp) q.1, q.2⟩
  refine ret t' v' x' tx' y' ty' n' h' tk' (newTups hR h') F' (fun p hp => ?_) h0 h1 (AtBy.of ha' rfl) (newTups_ne hl (by simp)) (fun p hp q hq => Ne.symm (newTups_ne (No p hp).1 (hoc p hp) q hq)) hdp hsz
  rcases List.mem_cons.mp hp with rfl | hp
  · exact ⟨hl, z.2⟩
  · rcases List.mem_append.mp hp with hp | hp
    · exact news_src F' hl z.2 p (.tail _ hp)
    · exact No p hp
theorem news_more {h h' : Heap} {a : Addr} {o : Obj} (F : Fr hR L h m) (N : News hR L h' news) (ha : h'.get? a = some o) (ha0 : h.get? a = none) : News hR L h' ((a, o) :: news) := fun p hp => by
  rcases List.mem_cons.mp hp with rfl | hp
  · refine ⟨ha, fun q => ?_, ?_⟩
    · obtain ⟨oL, _, _, hoL, _⟩ := F.ns
      simp only at q
      rw [q, hoL] at ha0; cases ha0
    · cases q : hR.get? a with
      | none => rfl
      | some o => have := F.keep _ _ q; rw [this] at ha0; cases ha0
  · exact N p hp
theorem measured_law (X : (hd.heap_39 w.params).In hR) (T : Top hd.view_39 (looseW hd.view_39 [Str.ofString "ChanError"]) mean mg mb hR) (F : Fr hR L s.heap m) (N : News hR L s.heap news) (ha : AtBy hR tr t v) (hs : ∀ p ∈ tr, p ∈ news) (hdp : t.depth ≤ 8)
    (ret : ∀ a p q k h' tk', Fr hR L h' m → News hR L h' ((a, tupO [.int t.lev p, .int t.size q] k) :: news) → (∀ p ∈ news, p.1 ≠ a) → Q (.ref a) { s with heap := h', toks := tk' }) :
    wpAny (model PySem.Challenge.rw_pq0225_01.row.prog w) (callerA.deeper env) (call (.ref 113) [v]) Q E s := by
  refine measured_ok X T 8 302 7 (some [env]) (some []) s Q E t v (fun b o e => F.keep b o e) (ha.at N hs) hdp room1 (by decide +kernel) ?_
  intro a p q k h' tk' kp h1 h0
  exact ret a p q k h' tk' (fr_all F kp) (news_more F (news_all N kp) h1 h0) (fun p hp e => by have z := (N p hp).1; rw [e, h0] at z; cases z)
theorem told_law {B0 B1 : Int} {tb0 tb1 : Tok} {bd : Addr} {nb : Nat} (X : (hd.heap_39 w.params).In hR) (T : Top hd.view_39 (looseW hd.view_39 [Str.ofString "ChanError"]) mean mg mb hR) (F : Fr hR L s.heap m) (N : News hR L s.heap news) (hkL : env.scope.kind ≠ .module) (hfL : env.frame = some L)
    (ha : AtBy hR tr t v) (hs : ∀ p ∈ tr, p ∈ news) (hsz : t.size ≤ 10000) (hbd : (bd, tupO [.int B0 tb0, .int B1 tb1] nb) ∈ news)
    (retN : ∀ h' tk', Fr hR L h' m → News hR L h' news → (t.gone B0 B1 0 0 0).1 = none → Q .none { s with heap := h', toks := tk' })
    (retS : ∀ r a k t1 t2 h' tk', Fr hR L h' m → News hR L h' ((a, tupO [.str (word r.1) t1, .int r.2 t2] k) :: news) → (∀ p ∈ news, p.1 ≠ a) → (t.gone B0 B1 0 0 0).1 = some r → Q (.ref a) { s with heap := h', toks := tk' }) :
    wpAny (model PySem.Challenge.rw_pq0225_01.row.prog w) (callerA.deeper env) (call (.ref 127) [v, .ref bd]) Q E s := by
  obtain ⟨oL, es, ep, hoL, hdL, rL⟩ := id F.ns
  have hL0 : hR.get? L = none := Heap.get?_none_of_le F.above
  refine told_ok (dp := 302) (un := 7) (fr := some [env]) (gd := some []) (envL := env) (Lc := L) (oc := oL) X T (fun b o e => F.keep b o e) room1 (by decide +kernel) (ha.at N hs) hsz (N _ hbd).1 rfl hkL hfL hoL (fun vs e => by rw [hdL] at e; cases e) (fun vs n e => by rw [e] at hdL; cases hdL) hL0 ?_ ?_
  · intro h' tk' k e
    exact retN h' tk' (fr_all F k) (news_all N k) e
  · intro r a k t1 t2 sl h' tk' kp hL' e h1 h0
    have F' : Fr hR L h' m := ⟨⟨_, es, ep, hL', hdL, rL⟩, fun b o eb => kp b o (fun q => by rw [q, hL0] at eb; cases eb) (F.keep b o eb), F.above⟩
    have N' : News hR L h' news := fun p hp => ⟨kp _ _ (N p hp).2.1 (N p hp).1, (N p hp).2⟩
    exact retS r a k t1 t2 h' tk' F' (news_more F N' h1 h0) (fun p hp e => by have z := (N p hp).1; rw [e, h0] at z; cases z) e
theorem gone_law {c p lv B0 B1 : Int} {tc tp tl tb0 tb1 : Tok} {bd l2 : Addr} {n2 nb : Nat} {nf : Obj → List (Addr × Obj)} (X : (hd.heap_39 w.params).In hR) (T : Top hd.view_39 (looseW hd.view_39 [Str.ofString "ChanError"]) mean mg mb hR) (F : Fr hR L s.heap m) (N : News hR L s.heap news)
    (ha : AtBy hR tr t v) (hs : ∀ p ∈ tr, p ∈ news) (hdp : t.depth ≤ 8) (hbd : (bd, tupO [.int B0 tb0, .int B1 tb1] nb) ∈ news) (U : ∀ o', Upd l2 (listOf #[.int c tc, .int p tp] n2) o' news (nf o'))
    (retN : ∀ c' p' tc' tp' n' h' tk', Fr hR L h' m → News hR L h' (nf (listOf #[.int c' tc', .int p' tp'] n')) → (t.gone B0 B1 lv c p).1 = none → Q .none { s with heap := h', toks := tk' })
    (retS : ∀ r a k t1 t2 c' p' tc' tp' n' h' tk', Fr hR L h' m → News hR L h' ((a, tupO [.str (word r.1) t1, .int r.2 t2] k) :: nf (listOf #[.int c' tc', .int p' tp'] n')) → (t.gone B0 B1 lv c p).1 = some r → Q (.ref a) { s with heap := h', toks := tk' }) :
    wpAny (model PySem.Challenge.rw_pq0225_01.row.prog w) (callerA.deeper env) (call (.ref 120) [v, .int lv tl, .ref bd, .ref l2]) Q E s := by
  have z := N _ (upd_mem (U (listOf #[.int c tc, .int p tp] n2)))
  refine gone_ok X T 8 t 302 7 (some [env]) (some []) s Q E v l2 bd c p lv B0 B1 tc tp tl tb0 tb1 n2 nb (fun b o e => F.keep b o e) (ha.at N hs) hdp room1 (by decide +kernel) z.1 z.2.2 (N _ hbd).1 ?_ ?_
  · intro c' p' tc' tp' n' h' tk' k hl e
    exact retN c' p' tc' tp' n' h' tk' (fr_keep1 F k z.2.1 z.2.2) (news_keep1 N (U _) k hl) (by rw [e])
  · intro r a k t1 t2 c' p' tc' tp' n' h' tk' kp hl e h1 h0
    exact retS r a k t1 t2 c' p' tc' tp' n' h' tk' (fr_keep1 F kp z.2.1 z.2.2) (news_more F (news_keep1 N (U _) kp hl) h1 h0) (by rw [e])
theorem take_law {nf : Obj → List (Addr × Obj)} {top : Int}
    (X : (hd.heap_39 w.params).In hR) (T : Top hd.view_39 (looseW hd.view_39 [Str.ofString "ChanError"]) mean mg mb hR) (F : Fr hR L s.heap m) (N : News hR L s.heap news)
    (U : ∀ o', Upd l (listOf #[.int x tx, .int y ty] n) o' news (nf o')) (hy0 : 0 ≤ y) (hy1 : y < 2147483647) (ht0 : 0 < top) (ht1 : top ≤ 1000)
    (ret : ∀ r t x' tx' y' ty' n' h' tk', Fr hR L h' m → News hR L h' (nf (listOf #[.int x' tx', .int y' ty'] n')) → 0 ≤ y' → y' < 2147483647 → 0 ≤ r → r < top → Q (.int r t) { s with heap := h', toks := tk' }) :
    wpAny (model PySem.Challenge.rw_pq0225_01.row.prog w) (callerA.deeper env) (call (.ref 73) [.ref l, .int top tt]) Q E s :=
  take_use (dp := 302) (un := 7) (fr := some [env]) (gd := some []) X T F N room1 U hy0 hy1 ht0 ht1 ret
end
end Mine
end U1

section F15
open PySem PySem.W PyProof.Rows PySem.Spec PySem.Calls
set_option maxHeartbeats 8000000
namespace Mine
theorem topOffF15 : True := by
  w_top off
  trivial
local macro_rules | `(tactic| k_all) => `(tactic| assumption)
local macro_rules | `(tactic| walk_at "call ref") => `(tactic| (k_here; (refine' stop ?_)))
local macro_rules | `(tactic| walk_at "exec For Name Call cons nil") => `(tactic| (k_here; (refine' stop ?_)))
local macro_rules | `(tactic| walk_at "exec For Name Call") => `(tactic| (k_here; (refine' stop ?_)))
local macro_rules | `(tactic| walk_at "exec For") => `(tactic| (k_here; (refine' stop ?_)))
local macro_rules | `(tactic| walk_at "call ref") => `(tactic| (k_here; (with_reducible show wpAny _ _ (call (Value.ref 73) _) _ _ _); (refine' take_law ?kx ?kt ?k1 ?k2 ?k4 ?k7 ?k8 ?k5 ?k6 ?_; (case k1 => k_asm); (case k2 => k_asm); (case kx => assumption); (case kt => assumption); (case k4 => (intro o9; k_upd)); (case k7 => assumption); (case k8 => assumption); (case k5 => decide); (case k6 => decide)); intro r9 t9 x9 tx9 y9 ty9 n9 h9 tk9 F9 N9 hy9 hy9' hr9 hr9'))
local macro_rules | `(tactic| walk_at "pyIter ref") => `(tactic| (k_here; (refine' stop ?_)))
theorem for_at {prog : Program} {w : World} {A : Around} {s : Shared} {env : Env} {h₀ : Heap} {m : Str → Option Value} {E : Value → Shared → Prop} {Q : Flow → Shared → Prop} {x : Str} {px pos : Pos} {iter : Expr} {body : List Stmt} (F : Fr h₀ env.locals s.heap m) (hx : env.kindOf x = some .local)
    (hp : (env.scope.kind == .class || (env.scope.kind == .module && env.locals != env.globals)) = false)
    (h : wpAny (model prog w) A (eval iter env) (fun xv s₁ => wpAny (model prog w) A (pyIter xv) (fun it s₂ => LoopAtV prog w A h₀ env x body Q E it s₂) E s₁) E s)
    (hs : ∀ x, foldedSetIterable iter env x = pure x)
    (hE : PassesOwn (model prog w) A env E) :
    wpAny (model prog w) A (exec (.For (.Name x px) iter body [] pos) env) Q E s := For_invV h₀ hx hp h hs hE
/-- what holds between the turns of the law's loop -/
def LawJ (hR : Heap) (l : Addr) (m₀ : Str → Option Value) (i : Nat) (m : Str → Option Value) (nx : List (Addr × Obj)) : Prop :=
  ∃ x y tx ty n tr t v, nx = (l, listOf #[.int x tx, .int y ty] n) :: tr ∧ 0 ≤ y ∧ y < 2147483647 ∧ (∀ p ∈ tr, p.1 ≠ l) ∧ AtBy hR tr t v ∧ t.depth ≤ 4 + i ∧ t.size + 1 ≤ 260 * 2 ^ i ∧ m (Str.ofString "tree") = some v ∧ ∀ z, z ≠ Str.ofString "turn" → z ≠ Str.ofString "tree" → m z = m₀ z
def LTurn (hR : Heap) (L l : Addr) (s : Shared) (m₀ : Str → Option Value) (i : Nat) (own : List (Addr × Obj)) (fl : Flow) (s₂ : Shared) : Prop :=
  fl = .next ∧ ∃ h' tk' m' nx', s₂ = { s with heap := h', toks := tk' } ∧ Fr hR L h' m' ∧ News hR L h' (nx' ++ own) ∧ TbOff own nx' ∧ LawJ hR l m₀ i m' nx'
theorem map_law {m₁ m₀ : Str → Option Value} {a b : Str} {v : Value} (h1 : m₁ b = some v) (h : ∀ z, z ≠ a → z ≠ b → m₁ z = m₀ z) : m₁ = fun z => if z = b then some v else if z = a then m₁ a else m₀ z := by
  funext z
  by_cases q : z = b
  · simp [q, h1]
  · rw [if_neg q]
    by_cases q2 : z = a
    · simp [q2]
    · rw [if_neg q2]; exact h z q2 q
theorem for_law {prog : Program} {w : World} {A : Around} {E : Value → Shared → Prop} {s : Shared} {env : Env} {hR : Heap} {body : List Stmt} {Q : Flow → Shared → Prop} {r l : Addr} {k : Int} {t u v : Tok} {m₀ : Str → Option Value} {news : List (Addr × Obj)}
    (hh : A.handled = none) (hr : IsRange s.heap r 0 k 1 t u v) (hk0 : 0 ≤ k) (hk5 : k < 5) (F : Fr hR env.locals s.heap m₀) (N : News hR env.locals s.heap news) (hj : LawJ hR l m₀ 0 m₀ news)
    (turn : ∀ i x y tx ty n tr t v ti uo h tk own, i < 5 → 0 ≤ y → y < 2147483647 → (∀ p ∈ tr, p.1 ≠ l) → (∀ p ∈ own, p.1 ≠ l) → (∀ p ∈ own, p.2.cls ≠ .type "tuple") → AtBy hR tr t v → t.depth ≤ 4 + i → t.size + 1 ≤ 260 * 2 ^ i →
      Fr hR env.locals h (fun z => if z = Str.ofString "turn" then some (.int (i : Int) ti) else if z = Str.ofString "tree" then some v else if z = Str.ofString "turn" then uo else m₀ z) → News hR env.locals h ((l, listOf #[.int x tx, .int y ty] n) :: (tr ++ own)) →
      wpAny (model prog w) A (execs body env) (LTurn hR env.locals l s m₀ (i + 1) own) E { s with heap := h, toks := tk })
    (done : ∀ x y tx ty n tr t v uo h tk, 0 ≤ y → y < 2147483647 → (∀ p ∈ tr, p.1 ≠ l) → AtBy hR tr t v → t.depth ≤ 8 → t.size ≤ 10000 → Fr hR env.locals h (fun z => if z = Str.ofString "tree" then some v else if z = Str.ofString "turn" then uo else m₀ z) → News hR env.locals h ((l, listOf #[.int x tx, .int y ty] n) :: tr) → Q .next { s with heap := h, toks := tk }) :
    wpAny (model prog w) A (pyIter (.ref r)) (fun it s₂ => LoopAtV prog w A hR env (Str.ofString "turn") body Q E it s₂) E s := by
  refine for_rng (LawJ hR l m₀) hh hr hk0 hk5 F N hj ?_ ?_
  · rintro i iv m₁ nx h tk own hi ⟨ti, rfl⟩ hoff hcls ⟨x, y, tx, ty, n, tr, t, v, rfl, hy, hy', hne, hat, hdp, hsz, hm, hmz⟩ F2 N2
    rw [map_law hm hmz] at F2
    refine wpAny_mono (turn i x y tx ty n tr t v ti _ h tk own hi hy hy' hne (fun p hp => hoff p hp _ (List.Mem.head _)) hcls hat hdp hsz F2 N2) (fun fl s₂ p => ?_) fun _ _ e => e
    obtain ⟨rfl, h', tk', m', nx', e, F', N', ho, hJ⟩ := p
    subst e
    exact ⟨h', tk', m', nx' ++ own, nx', rfl, F', N', (fun p hp => List.mem_append_left _ hp), (fun p hp => List.mem_append_right _ hp), ho, hJ⟩
  · rintro m₁ nx h tk ⟨x, y, tx, ty, n, tr, t, v, rfl, hy, hy', hne, hat, hdp, hsz, hm, hmz⟩ F2 N2
    rw [map_law hm hmz] at F2
    have hk : k.toNat ≤ 4 := by omega
    have hp : 2 ^ k.toNat ≤ 2 ^ 4 := Nat.pow_le_pow_right (by decide) hk
    exact done x y tx ty n tr t v _ h tk hy hy' hne hat (by omega) (by omega) F2 N2
theorem law_ok : PySem.Challenge.rw_pq0225_01.Holds := hd (by
  k_go0
  (all_goals try k_fold)
  k_steps
  unfold Stop
  rename Fr _ _ _ _ => F1
  rename News _ _ _ _ => N1
  rename Top _ _ _ _ _ _ => T1
  rename Frag.In _ _ => X1
  have a0 := N1 _ (.tail _ (.head _))
  have a1 := N1 _ (.tail _ (.tail _ (.head _)))
  have a2 := N1 _ (.tail _ (.tail _ (.tail _ (.head _))))
  have a3 := N1 _ (.tail _ (.tail _ (.tail _ (.tail _ (.head _)))))
  have a4 := N1 _ (.tail _ (.tail _ (.tail _ (.tail _ (.tail _ (.head _))))))
  refine told_law (t := T0) X1 T1 F1 N1 (by show ScopeKind.function ≠ ScopeKind.module; decide) rfl (tr := _) ?ha (fun p hp => hp) (by decide) (.head _) ?tN ?tS
  case ha =>
    intro h k
    have le2 : ∀ (a b : Value), [a, b].length ≤ 1000 := fun _ _ => Nat.le_of_ble_eq_true rfl
    have le3 : ∀ (a b c : Value), [a, b, c].length ≤ 1000 := fun _ _ _ => Nat.le_of_ble_eq_true rfl
    refine ⟨_, [], _, _, rfl, k _ (.tail _ (.head _)), a0.2.2, le2 _ _, rfl, _, _, rfl, ⟨_, [_, _], [_], _, rfl, k _ (.tail _ (.tail _ (.tail _ (.tail _ (.head _))))), a3.2.2, le3 _ _ _, ⟨_, _, rfl⟩, _, _, rfl, ⟨_, [_, _], [], _, rfl, k _ (.tail _ (.tail _ (.tail _ (.tail _ (.tail _ (.head _)))))), a4.2.2, le2 _ _, ⟨_, _, rfl⟩, rfl⟩, rfl⟩,
      _, _, rfl, ⟨_, [_, _], [_], _, rfl, k _ (.tail _ (.tail _ (.head _))), a1.2.2, le3 _ _ _, ⟨_, _, rfl⟩, _, _, rfl, ⟨_, [_, _], [], _, rfl, k _ (.tail _ (.tail _ (.tail _ (.head _)))), a2.2.2, le2 _ _, ⟨_, _, rfl⟩, rfl⟩, rfl⟩, rfl⟩
  case tN =>
    intro h' tk' F' N' e
    rw [T0_gone] at e; cases e
  case tS =>
    intro r a k t1 t2 h' tk' F' N' hne e
    rw [T0_gone] at e
    obtain rfl := Option.some.inj e
    clear F1 N1 a0 a1 a2 a3 a4
    k_steps
    unfold Stop
    rename Fr _ _ _ _ => F1
    rename News _ _ _ _ => N1
    refine pool_law X1 T1 F1 N1 (by assumption) (by assumption) (by assumption) (by assumption) ?_
    intro l x tx y ty n h2 tk2 F2 N2 hy hy'
    clear F1 N1 hne
    (try clear F' N')
    k_steps
    unfold Stop
    rename Fr _ _ _ _ => F1
    rename News _ _ _ _ => N1
    refine tree_law X1 T1 F1 N1 (.head _) hy hy' ?_
    intro t v x1 tx1 y1 ty1 n1 h3 tk3 tr F3 N3 hz hz' hat htr hdp hsz
    clear F1 N1
    (try clear F2 N2)
    k_steps
    unfold Stop
    rename Fr _ _ _ _ => F1
    rename News _ _ _ _ => N1
    refine' for_at F1 ?x1 ?x2 ?x3 ?x4 ?x5
    case x1 => exact rfl
    case x2 => exact rfl
    case x4 => intro _; exact rfl
    case x5 => passes_own
    case x3 =>
      k_steps
      unfold Stop
      rename IsRange _ _ _ _ _ _ _ _ => hRng
      rename Fr _ _ _ _ => F2
      rename News _ _ _ _ => N2
      refine for_law (l := l) rfl hRng (by assumption) (by assumption) F2 N2 ⟨_, _, _, _, _, tr, t, v, rfl, by assumption, by assumption, htr, hat, hdp, by omega, rfl, fun _ _ _ => rfl⟩ ?jt ?jd
      case jt =>
        clear hat htr hdp hsz
        intro i x y tx ty n tr t v ti uo h tk own hi hy hy' hne hno hcls hat hdp hsz F5 N5
        dsimp only [envOf] at F5 N5
        clear F1 N1 F2 N2 hRng
        (try clear F' N')
        k_steps
        unfold Stop
        refine around_law X1 T1 F5 N5 hy hy' hat hno hcls ?_
        intro t' v' x' tx' y' ty' n' h' tk' tr' F6 N6 hz hz' hat' hne' hno' hdp' hsz'
        clear F5 N5
        k_steps
        rename Fr _ _ _ _ => F7
        rename News _ _ _ _ => N7
        exact ⟨rfl, _, _, _, (l, _) :: tr', rfl, F7, N7, fun p hp q hq => (List.mem_cons.mp hq).elim (fun e => by rw [e]; exact hno p hp) (hno' p hp q), ⟨_, _, _, _, _, tr', t', v', rfl, hz, hz', hne', hat', by omega, by rw [Nat.pow_succ]; omega, rfl, fun z h1 h2 => by simp only [if_neg h1, if_neg h2]⟩⟩
      case jd =>
        clear hat htr hdp hsz
        intro x y tx ty n tr t v uo h tk hy hy' hne hat hdp hsz F5 N5
        dsimp only [envOf] at F5 N5
        clear F1 N1 F2 N2 hRng
        (try clear F' N')
        k_steps
        unfold Stop
        refine measured_law X1 T1 F5 N5 hat (fun p hp => .tail _ hp) hdp ?_
        intro a p q k h6 tk6 F6 N6 hne6
        have hla : @Ne Nat l a := hne6 _ (.head _)
        clear F5 N5
        k_steps
        unfold Stop
        rename Fr _ _ _ _ => F7
        rename News _ _ _ _ => N7
        refine told_law (t := t) X1 T1 F7 N7 (by show ScopeKind.function ≠ ScopeKind.module; decide) rfl hat (fun p hp => .tail _ (.tail _ (.tail _ (.tail _ hp)))) hsz (.head _) ?tN ?tS
        case tS =>
          intro r a k t1 t2 h' tk' F' N' hne e
          rw [fits_none] at e; cases e
        case tN =>
          intro h8 tk8 F8 N8 _
          clear F7 N7
          k_steps
          unfold Stop
          rename Fr _ _ _ _ => F7
          rename News _ _ _ _ => N7
          refine told_law (t := t) X1 T1 F7 N7 (by show ScopeKind.function ≠ ScopeKind.module; decide) rfl hat (fun p hp => .tail _ (.tail _ (.tail _ (.tail _ hp)))) hsz (.tail _ (.head _)) ?uN ?uS
          case uN =>
            intro h8 tk8 F8 N8 e8
            clear F7 N7
            k_steps
            unfold Stop
            rename Fr _ _ _ _ => F7
            rename News _ _ _ _ => N7
            refine gone_law (t := t) X1 T1 F7 N7 hat (fun p hp => .tail _ (.tail _ (.tail _ (.tail _ (.tail _ hp))))) hdp (.tail _ (.tail _ (.head _))) (by intro o9; k_upd) ?gN ?gS
            case gS =>
              intro r a k t1 t2 c' p' tc' tp' n' h' tk' F' N' e
              rw [e8] at e; cases e
            case gN =>
              intro c' p' tc' tp' n' h9 tk9 F9 N9 _
              clear F7 N7
              k_steps
          case uS =>
            intro r a k t1 t2 h8 tk8 F8 N8 hne8 e8
            clear F7 N7
            k_steps
            unfold Stop
            rename Fr _ _ _ _ => F7
            rename News _ _ _ _ => N7
            refine gone_law (t := t) X1 T1 F7 N7 hat (fun p hp => .tail _ (.tail _ (.tail _ (.tail _ (.tail _ (.tail _ hp)))))) hdp (.tail _ (.tail _ (.tail _ (.head _)))) (by intro o9; k_upd) ?gN ?gS
            case gN =>
              intro c' p' tc' tp' n' h9 tk9 F9 N9 e
              rw [e8] at e; cases e
            case gS =>
              intro r' a' k' t1' t2' c' p' tc' tp' n' h9 tk9 F9 N9 e
              rw [e8] at e
              obtain rfl := Option.some.inj e
              clear F7 N7
              obtain ⟨rb, ri⟩ := r
              have hw0 : word false = Str.ofString "parts" := rfl
              have hw1 : word true = Str.ofString "levels" := rfl
              cases rb with
              | false =>
                dsimp only at N9
                rw [hw0] at N9
                k_steps
              | true =>
                dsimp only at N9
                rw [hw1] at N9
                k_steps)
end Mine
end F15

theorem PySem.Challenge.cw_pq0225_01_holds : PySem.Challenge.rw_pq0225_01.Holds :=
  Mine.law_ok
