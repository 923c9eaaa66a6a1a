import PyProof.Rows.All
import Wide.All
import OpenK.AllK
import Wide.FinOn
import Lean
import PySem.Challenge.RW_sj0118_01

set_option Elab.async false

section
open PySem PySem.W PyProof.Rows
set_option maxRecDepth 100000
set_option maxHeartbeats 8000000
namespace Mine
section
variable (tb : String → Option Builtin) (p : Program) (w : World) (n₀ : Nat) (ann : Option Value)
/-- the top, run over a tree of objects -/
noncomputable def goT : Nat → SharedT → Thread → Option SharedT
  | 0, _, _ => none
  | n + 1, s, t => match through t with
    | true => some s
    | false => match PySem.W.Fast.tw6613529449190102663 n₀ ann t with
      | false => none
      | true => match PySem.W.Fast.tw10156331382660048174 (PySem.W.Fast.tw11892475500146522536 tb) p w s t with
        | some (s', t') => goT n s' t'
        | none => none
end
theorem goT_of {tb : String → Option Builtin} {p : Program} {w : World} {n₀ : Nat} {ann : Option Value} : ∀ {n : Nat} {s s' : SharedT} {t : Thread}, goT tb p w n₀ ann n s t = some s' → topRun tb p w n₀ ann n s.abs t = some s'.abs
  | 0, _, _, _, h => by cases h
  | n + 1, s, s', t, h => by
    unfold goT at h
    unfold topRun
    cases he : through t with
    | true => rw [he] at h; cases h; rfl
    | false =>
      rw [he] at h
      rw [← PySem.W.Fast.te6613529449190102663] at h
      dsimp only at h
      cases hk : stepOk n₀ ann t with
      | false => rw [hk] at h; cases h
      | true =>
        rw [hk] at h
        rw [← PySem.W.Fast.te10156331382660048174, ← PySem.W.Fast.te11892475500146522536] at h
        dsimp only at h
        cases hs : stepT (denote tb) p w s t with
        | none => rw [hs] at h; cases h
        | some r => obtain ⟨s₂, t₂⟩ := r; rw [hs] at h; dsimp only; rw [stepT_spec hs]; exact goT_of h
noncomputable abbrev bootT (P : Params) : BT := ((((((((((BT.nil.ins 0 (boot_o_0 P)).ins 1 (boot_o_1 P)).ins 2 (boot_o_2 P)).ins 3 (boot_o_3 P)).ins 4 (boot_o_4 P)).ins 5 (boot_o_5 P)).ins 6 (boot_o_6 P)).ins 7 (boot_o_7 P)).ins 8 (boot_o_8 P)).ins 9 (boot_o_9 P)).ins 10 (boot_o_10 P)
theorem bootT_abs (P : Params) : absHeap (bootT P) 11 {} = boot_heap P := by rfl
theorem left_tree {p q : Program} {loose : List Str} {Xt : Shared → Bool} {α : Type} {Yf : Shared → α} {Ya : World → α} {N : Nat} {g0 : Bool} {ann : Option Value}
    (e : opening p = plainProg p.main.scope.names) (hN : Nat.ble 600 N = true) (f : ∀ s, fenceModules? p s = some s)
    (size : ∀ P : Params, ((boot_heap P).isNs mainGlobals, (boot_heap P).nsMap mainGlobals "__annotations__") = (true, ann))
    (run : ∀ (w : World) (os : OsState), (goT treeTable p w 11 ann N ⟨bootT w.params, 11, {}, #[], boot_drawn, boot_toks, os⟩ (topStub p)).map (fun s =>
        ((staticsOk (importedModules p.main.body) (boot_heap w.params) s.abs.heap && namesBound p s.abs.heap && gensDone s.abs && laidKept (boot_heap w.params) s.abs.heap), openSeen q loose (importedModules p.main.body) Xt g0 s.abs, Yf s.abs)) = some (true, openGood q loose, Ya w)) : LeftO p q loose Xt Yf Ya N g0 := fun w => by
  obtain ⟨⟨h, gs, d, k, os⟩, e1, e'⟩ := Option.map_eq_some_iff.mp (boot_open (N := N) e hN f w)
  obtain ⟨rfl, rfl, rfl, rfl⟩ : h = boot_heap w.params ∧ gs = #[] ∧ d = boot_drawn ∧ k = boot_toks := by simpa using e'
  obtain ⟨z1, z3⟩ : _ ∧ _ := by simpa only [Prod.mk.injEq] using size w.params
  obtain ⟨s', r, hs⟩ := Option.map_eq_some_iff.mp (run w os)
  obtain ⟨l1, l2, l3⟩ : _ ∧ _ ∧ _ := by simpa only [Prod.mk.injEq] using hs
  have r' := goT_of r
  have t : topFrom treeTable p w N ⟨boot_heap w.params, #[], boot_drawn, boot_toks, os⟩ = some s'.abs := by
    unfold topFrom
    dsimp only
    rw [z1, z3]
    have hsz : (boot_heap w.params).objs.size = 11 := rfl
    rw [hsz]
    have r2 : topRun treeTable p w 11 ann N ⟨boot_heap w.params, #[], boot_drawn, boot_toks, os⟩ (topStub p) = some s'.abs := r'
    rw [r2]
    show (match staticsOk (importedModules p.main.body) (boot_heap w.params) s'.abs.heap && namesBound p s'.abs.heap && gensDone s'.abs && laidKept (boot_heap w.params) s'.abs.heap with | true => _ | false => _) = _
    rw [l1]
  unfold openEnds
  rw [e1]
  show (topFrom treeTable p w N _).map _ = _
  rw [t]
  exact congrArg some (Prod.ext l2 l3)
def view1 : Program := { PySem.Challenge.pw_sj0118_01 with main := { PySem.Challenge.pw_sj0118_01.main with body := PySem.Challenge.pw_sj0118_01.main.body.filter fun s => match s with | .Assign [.Name x _] _ _ => !(x == Str.ofString "__name__") | _ => true } }
abbrev Xt1 (s : Shared) : Bool := xlAt view1 [] s && recOk (RowW.records (PySem.Challenge.rw_sj0118_01.row.toRowW)) s
theorem wrap {K : Params → Frag} {as : List Addr} {e : ∀ P, as = (K P).map (·.1)} {d : DefRec} {kwd : List (Str × Expr)} (said : PySem.Challenge.rw_sj0118_01.row.wellSaid = true) (hdef : defOf view1 PySem.Challenge.rw_sj0118_01.row.name = some (d, kwd))
    (hp : PySem.Challenge.rw_sj0118_01.row.prog.theDef PySem.Challenge.rw_sj0118_01.row.name = some (d.params, d.body, d.scope)) (hk : kwWritten? d.params.kwonlyargs d.params.kw_defaults = some kwd)
    (hl : LeftO PySem.Challenge.pw_sj0118_01 view1 [] Xt1 (Hook.obs (kHook K as e)) (Hook.val (kHook K as e)) 4202)
    (hw : PySem.Challenge.rw_sj0118_01.row.toRowW.promised)
    (hc : WalkO view1 [] (XL view1 []) (kHook K as e).says PySem.Challenge.rw_sj0118_01.row.toRowW d kwd fun f vs => PySem.call f vs) : PySem.Challenge.rw_sj0118_01.row.Holds :=
  holds_open (r := PySem.Challenge.rw_sj0118_01.row) (q := view1) (loose := []) (Xt := Xt1) (XP := XL view1 []) (Yf := Hook.obs (kHook K as e)) (Ya := Hook.val (kHook K as e)) (YP := Hook.says (kHook K as e)) (N := 4202)
    hl (Hook.of _) (Hook.keeps _) (fun s e => xl_of s (Bool.and_eq_true_iff.mp e).1) XL.keeps hdef hp hk (fun s e => recFacts_of (Bool.and_eq_true_iff.mp e).2) (by rfl) said (by decide +kernel) ⟨rfl, rfl, rfl, rfl, rfl, by decide +kernel⟩ hw hc
local macro_rules | `(tactic| o_head (kHook $K $as $e)) => `(tactic| (refine Mine.wrap (K := $K) (as := $as) (e := $e) (by assumption) (by rfl) (by rfl) (by rfl) ?hl ?hw ?hc; (case hl => (refine Mine.left_tree (ann := some (PySem.Value.ref 6)) (by kernel_rfl) (by decide) (fun _ => by kernel_rfl) (fun _ => by kernel_rfl) ?run; intro w os; rw [PySem.W.Fast.te4187177175401517315]; kernel_rfl))))
open_top hd for PySem.Challenge.rw_sj0118_01
end Mine
end

section
open PySem PySem.W PyProof.Rows PySem.Calls
set_option maxRecDepth 100000
namespace Mine
abbrev Led := List (Addr × Obj)
abbrev PR : Program := PySem.Challenge.rw_sj0118_01.row.prog

def Con (w : World) (mean : ExcName → Option Value) (mg mb : Str → Option Value) (f : Addr) (dd uu : Nat) (news : Led) (vs : List Value) (Post : Value → Led → Prop) : Prop :=
  ∀ (dp un : Nat) (gd : Option (List Code)) (cn : Str) (cs : Scope) (a : Addr) (ccd : Value) (cl : List (Str × Addr)) (outer : List Env) (A₀ : Around) (base h₀ : Heap) (L : Addr) (m : Str → Option Value) (sh : Heap) (sg : Array GenState) (sd : Drawn) (sk : Nat) (so : OsState) (Q E : Value → Shared → Prop),
    Below A₀ base outer h₀ → Fr h₀ L sh m → (hd.heap_39 w.params).In h₀ → News h₀ L sh news → Top view1 (looseW view1 []) mean mg mb h₀ → cs.kind = .function →
    dp + dd < recursionLimit → un + uu < cLine →
    (∀ r news' h' tk', Fr h₀ L h' m → News h₀ L h' news' → Post r news' → Q r ⟨h', sg, sd, tk', so⟩) →
    wpAny (model PR w) (ktrTop dp un gd cn cs L a ccd cl outer) (call (.ref f) vs) Q E ⟨sh, sg, sd, sk, so⟩
theorem Con.use {w : World} {mean : ExcName → Option Value} {mg mb : Str → Option Value} {f : Addr} {dd uu : Nat} {news : Led} {vs : List Value} {Post : Value → Led → Prop} (c : Con w mean mg mb f dd uu news vs Post)
    {dp un : Nat} {gd : Option (List Code)} {cn : Str} {cs : Scope} {a : Addr} {ccd : Value} {cl : List (Str × Addr)} {outer : List Env} {A₀ : Around} {base h₀ : Heap} {L : Addr} {m : Str → Option Value} {sh : Heap} {sg : Array GenState} {sd : Drawn} {sk : Nat} {so : OsState} {Q E : Value → Shared → Prop}
    (B : Below A₀ base outer h₀) (F : Fr h₀ L sh m) (X : (hd.heap_39 w.params).In h₀) (N : News h₀ L sh news) (T : Top view1 (looseW view1 []) mean mg mb h₀) (hk : cs.kind = .function)
    (hd : dp + dd < recursionLimit) (hu : un + uu < cLine) (hret : ∀ r news' h' tk', Fr h₀ L h' m → News h₀ L h' news' → Post r news' → Q r ⟨h', sg, sd, tk', so⟩) :
    wpAny (model PR w) (ktrTop dp un gd cn cs L a ccd cl outer) (call (.ref f) vs) Q E ⟨sh, sg, sd, sk, so⟩ := c _ _ _ _ _ _ _ _ _ _ _ _ _ _ _ _ _ _ _ _ _ B F X N T hk hd hu hret
theorem Con.use2 {w : World} {mean : ExcName → Option Value} {mg mb : Str → Option Value} {f : Addr} {dd uu : Nat} {news : Led} {vs : List Value} {Post : Value → Led → Prop}
    {dp un : Nat} {gd : Option (List Code)} {cn : Str} {cs : Scope} {a : Addr} {ccd : Value} {cl : List (Str × Addr)} {outer : List Env} {A₀ : Around} {base h₀ : Heap} {L : Addr} {m : Str → Option Value} {sh : Heap} {sg : Array GenState} {sd : Drawn} {sk : Nat} {so : OsState} {Q E : Value → Shared → Prop}
    (B : Below A₀ base outer h₀) (F : Fr h₀ L sh m) (X : (hd.heap_39 w.params).In h₀) (N : News h₀ L sh news) (T : Top view1 (looseW view1 []) mean mg mb h₀) (hk : cs.kind = .function)
    (hd : dp + dd < recursionLimit) (hu : un + uu < cLine) (c : Con w mean mg mb f dd uu news vs Post) (hret : ∀ r news' h' tk', Fr h₀ L h' m → News h₀ L h' news' → Post r news' → Q r ⟨h', sg, sd, tk', so⟩) :
    wpAny (model PR w) (ktrTop dp un gd cn cs L a ccd cl outer) (call (.ref f) vs) Q E ⟨sh, sg, sd, sk, so⟩ := c _ _ _ _ _ _ _ _ _ _ _ _ _ _ _ _ _ _ _ _ _ B F X N T hk hd hu hret
end Mine
end

section
open PySem PySem.W PyProof.Rows PySem.Calls
set_option maxRecDepth 100000
namespace Mine
theorem om1 {u a c : Nat} (h : a ≤ c) : u + a ≤ u + c := Nat.add_le_add_left h u
theorem om2 {u a b c : Nat} (h : a + b ≤ c) : u + a + b ≤ u + c := Nat.add_assoc u a b ▸ Nat.add_le_add_left h u
theorem om3 {u n c : Nat} (h : u + n < c) : u < c := Nat.lt_of_le_of_lt (Nat.le_add_right _ _) h

/-- the walk halts here -/
noncomputable def Stop (p : Prop) : Prop := p
theorem Stop.out {p : Prop} (h : Stop p) : p := h
theorem Stop.go {p : Prop} (h : p) : Stop p := h
/-- none of `new` stands where one of `old` stands -/
noncomputable def Ab (old new : Led) : Prop := ∀ q ∈ new, ∀ p ∈ old, p.1 ≠ q.1
theorem letA {α : Type} {M : Model} {A : Around} {t : Sem α} {Q : α → Shared → Prop} {E : Value → Shared → Prop} {s : Shared} (h : let ak := A; wpAny M ak t Q E s) : wpAny M A t Q E s := h
theorem letE {M : Model} {A : Around} {b : List Stmt} {env : Env} {Q : Flow → Shared → Prop} {E : Value → Shared → Prop} {s : Shared} (h : let ev := env; wpAny M A (execs b ev) Q E s) : wpAny M A (execs b env) Q E s := h
theorem flat2 {α : Type} {M : Model} {A : Around} {t : Sem α} {Q : α → Shared → Prop} {E : Value → Shared → Prop} {h : Heap} {G g : Array GenState} {D d : Drawn} {K k : Nat} {O o : OsState} (eg : G = g) (ed : D = d) (ek : K = k) (eo : O = o) (H : wpAny M A t Q E ⟨h, g, d, k, o⟩) : wpAny M A t Q E ⟨h, G, D, K, O⟩ := by
  cases eg; cases ed; cases ek; cases eo; exact H
structure Md (n : Nat) : Prop where
theorem md (n : Nat) {P : Prop} (k : Md n → P) : P := k ⟨⟩
theorem letF {g : Heap} {L : Addr} {h : Heap} {m : Str → Option Value} {P : Prop} (F : Fr g L h m) (k : let n := m; Fr g L h n → P) : P := k F
theorem le60 {n : Nat} (h : n ≤ 60) : n ≤ sizeLine := Nat.le_trans h (by rw [sizeLine_eq]; decide)
theorem sub_rfl {T : Led} : ∀ p ∈ T, p ∈ T := fun _ h => h
theorem sub_left {T S : Led} : ∀ p ∈ T, p ∈ T ++ S := fun _ h => List.mem_append_left _ h
theorem sub_cc {a : Addr × Obj} {T S : Led} (h : ∀ p ∈ T, p ∈ S) : ∀ p ∈ a :: T, p ∈ a :: S := fun p hp => (List.mem_cons.mp hp).elim (fun e => e ▸ List.mem_cons_self) fun hp => List.mem_cons_of_mem _ (h p hp)
theorem sub_skip {a : Addr × Obj} {T S : Led} (h : ∀ p ∈ T, p ∈ S) : ∀ p ∈ T, p ∈ a :: S := fun p hp => List.mem_cons_of_mem _ (h p hp)
theorem sub_aa {A T S : Led} (h : ∀ p ∈ T, p ∈ S) : ∀ p ∈ A ++ T, p ∈ A ++ S := fun p hp => (List.mem_append.mp hp).elim (fun h => List.mem_append_left _ h) fun hp => List.mem_append_right _ (h p hp)
theorem sub_al {A T S : Led} (h : ∀ p ∈ T, p ∈ S) : ∀ p ∈ T, p ∈ A ++ S := fun p hp => List.mem_append_right _ (h p hp)
theorem Ab.nil {o : Led} : Ab o [] := fun _ h => nomatch h
noncomputable abbrev Ab.tl {o a : Led} (_ : Ab o a) : Led := a
theorem Ab.app {o a b : Led} (ha : Ab o a) (hb : Ab o b) : Ab o (a ++ b) := fun q hq => (List.mem_append.mp hq).elim (ha q) (hb q)
theorem Ab.sub {o o' a : Led} (h : Ab o a) (hs : ∀ p ∈ o', p ∈ o) : Ab o' a := fun q hq p hp => h q hq p (hs p hp)

section
variable {prog : Program} {w : World} {A : Around} {E : Value → Shared → Prop} {s : Shared} {env : Env} {h₀ : Heap} {target : Expr} {body : List Stmt} {Q : Flow → Shared → Prop}

/-- what a turn must leave -/
noncomputable def LEnd {σ : Type} (h₀ : Heap) (L : Addr) (LedM : σ → Led) (ps : σ → List (Str × Value)) (stored : List Str) (m₀ : Str → Option Value) (P : σ → Led → Prop) (cur own : Led) (s₁ s₂ : Shared) : Prop :=
  ∃ h' tk m' news' c' add, s₂ = { s₁ with heap := h', toks := tk } ∧ Fr h₀ L h' m' ∧ News h₀ L h' news' ∧ (∀ p ∈ LedM c' ++ (add ++ (cur ++ own)), p ∈ news') ∧ Ab (LedM c' ++ (cur ++ own)) add ∧
    (∀ p ∈ ps c', m' p.1 = some p.2) ∧ (∀ z, (∀ p ∈ ps c', z ≠ p.1) → stored.contains z = false → m' z = m₀ z) ∧ P c' (add ++ cur)
noncomputable def LPost {σ : Type} (h₀ : Heap) (L : Addr) (LedM : σ → Led) (ps : σ → List (Str × Value)) (stored : List Str) (m₀ : Str → Option Value) (P : σ → Led → Prop) (cur own : Led) (s₁ : Shared) (Q : Flow → Shared → Prop) (f : Flow) (s₂ : Shared) : Prop :=
  match f with
  | .ret v => Q (.ret v) s₂
  | .brk => Q .next s₂
  | _ => LEnd h₀ L LedM ps stored m₀ P cur own s₁ s₂
theorem LEnd.intro {σ : Type} {L : Addr} {LedM : σ → Led} {ps : σ → List (Str × Value)} {stored : List Str} {m₀ m' : Str → Option Value} {P : σ → Led → Prop} {cur own news' : Led} {s₁ : Shared} {Q : Flow → Shared → Prop} {h' : Heap} {tk : Nat} (c' : σ) (add : Led)
    (F : Fr h₀ L h' m') (N : News h₀ L h' news') (hk : ∀ p ∈ ps c', m' p.1 = some p.2) (hn : ∀ p ∈ LedM c' ++ (add ++ (cur ++ own)), p ∈ news') (ha : Ab (LedM c' ++ (cur ++ own)) add)
    (hs : ∀ z, (∀ p ∈ ps c', z ≠ p.1) → stored.contains z = false → m' z = m₀ z) (hP : P c' (add ++ cur)) : LPost h₀ L LedM ps stored m₀ P cur own s₁ Q .next { s₁ with heap := h', toks := tk } :=
  ⟨h', tk, m', news', c', add, rfl, F, N, hn, ha, hk, hs, hP⟩
theorem OwnOff.add {l : Led} {b : Addr} {adr : List Addr} (h : OwnOff l adr) (k : ∀ p ∈ l, p.1 ≠ b) : OwnOff l (b :: adr) := fun p hp c hc => (List.mem_cons.mp hc).elim (fun e => e ▸ k p hp) (h p hp c)
theorem OwnOff.sub {l l' : Led} {adr : List Addr} (h : OwnOff l adr) (k : ∀ p ∈ l', p ∈ l) : OwnOff l' adr := fun p hp => h p (k p hp)
theorem OwnOff.app {l l' : Led} {adr : List Addr} (h : OwnOff l adr) (k : OwnOff l' adr) : OwnOff (l ++ l') adr := fun p hp => (List.mem_append.mp hp).elim (h p) (k p)
theorem OwnOff.of_ab {o a : Led} (h : Ab o a) : OwnOff a (o.map (·.1)) := fun p hp b hb => by
  obtain ⟨q, hq, rfl⟩ := List.mem_map.mp hb
  exact Ne.symm (h p hp q hq)
theorem OwnOff.symm {o a : Led} (h : OwnOff a (o.map (·.1))) : OwnOff o (a.map (·.1)) := fun p hp b hb => by
  obtain ⟨q, hq, rfl⟩ := List.mem_map.mp hb
  exact Ne.symm (h q hq p.1 (List.mem_map.mpr ⟨p, hp, rfl⟩))
theorem Ab.cons {o a : Led} {q : Addr × Obj} (h : ∀ p ∈ o, p.1 ≠ q.1) (k : Ab o a) : Ab o (q :: a) := fun r hr => by
  rcases List.mem_cons.mp hr with rfl | hr
  · exact h
  · exact k r hr
theorem ne_lt {o l : Led} {d : Addr} (h : ∀ p ∈ l, p.1 < d) (hs : ∀ p ∈ o, p ∈ l) : ∀ p ∈ o, p.1 ≠ d := fun p hp => Nat.ne_of_lt (h p (hs p hp))
theorem ne_lt2 {o l : Led} {d e : Addr} (k : d < e) (h : ∀ p ∈ l, p.1 < d) (hs : ∀ p ∈ o, p ∈ l) : ∀ p ∈ o, p.1 ≠ e := fun p hp => Nat.ne_of_lt (Nat.lt_trans (h p (hs p hp)) k)
theorem ne_all {o l : Led} {d : Addr} (h : AllLt d l) (hs : ∀ p ∈ o, p ∈ l) : ∀ p ∈ o, p.1 ≠ d := fun p hp => Nat.ne_of_lt (ktn_ltOf h p (hs p hp))
theorem off1_mem {D : Addr} : ∀ {l : Led}, LCg.Off1 D l → ∀ p ∈ l, p.1 ≠ D
  | [], _, _, h => nomatch h
  | _ :: _, x, p, h => by
    rcases List.mem_cons.mp h with rfl | h
    · exact x.1
    · exact off1_mem x.2 p h
theorem ne_off1 {o l : Led} {d : Addr} (h : LCg.Off1 d l) (hs : ∀ p ∈ o, p ∈ l) : ∀ p ∈ o, p.1 ≠ d := fun p hp => off1_mem h p (hs p hp)
theorem ne_ab {o l a : Led} {q : Addr × Obj} (h : Ab l a) (hm : q ∈ a) (hs : ∀ p ∈ o, p ∈ l) : ∀ p ∈ o, p.1 ≠ q.1 := fun p hp => h q hm p (hs p hp)
theorem ne_abr {o l a : Led} {d : Addr} {x : Obj} (h : Ab l a) (hm : (d, x) ∈ l) (hs : ∀ p ∈ o, p ∈ a) : ∀ p ∈ o, p.1 ≠ d := fun p hp => Ne.symm (h p (hs p hp) (d, x) hm)
theorem Ab.re {d : Addr} {o1 o2 : Obj} {r a : Led} (h : Ab ((d, o1) :: r) a) : Ab ((d, o2) :: r) a := fun q hq p hp => (List.mem_cons.mp hp).elim (fun e => e ▸ h q hq (d, o1) (.head _)) fun hp => h q hq p (.tail _ hp)
theorem ne_own1 {o l : Led} {d : Addr} {r : List Addr} (h : OwnOff l (d :: r)) (hs : ∀ p ∈ o, p ∈ l) : ∀ p ∈ o, p.1 ≠ d := fun p hp => h p (hs p hp) d (.head _)
theorem ne_own2 {o l : Led} {d a : Addr} {r : List Addr} (h : OwnOff l (a :: d :: r)) (hs : ∀ p ∈ o, p ∈ l) : ∀ p ∈ o, p.1 ≠ d := fun p hp => h p (hs p hp) d (.tail _ (.head _))
theorem ne_own3 {o l : Led} {d a b : Addr} {r : List Addr} (h : OwnOff l (a :: b :: d :: r)) (hs : ∀ p ∈ o, p ∈ l) : ∀ p ∈ o, p.1 ≠ d := fun p hp => h p (hs p hp) d (.tail _ (.tail _ (.head _)))
theorem off_of {l : Led} {adr : List Addr} (h : ∀ b ∈ adr, ∀ p ∈ l, p.1 ≠ b) : OwnOff l adr := fun p hp b hb => h b hb p hp
theorem Ab.one {o : Led} {q : Addr × Obj} (h : AllLt q.1 o) : Ab o [q] := fun r hr p hp => by rw [List.mem_singleton.mp hr]; exact Nat.ne_of_lt (ktn_ltOf h p hp)
noncomputable def LInv {σ : Type} (LedM : σ → Led) (ps : σ → List (Str × Value)) (stored : List Str) (m₀ : Str → Option Value) (I₀ : Led) (adr : List Addr) (P : σ → Led → Prop) (m : Str → Option Value) (nx : Led) : Prop :=
  ∃ c add, nx = LedM c ++ (add ++ I₀) ∧ Ab (LedM c ++ I₀) add ∧ OwnOff (add ++ I₀) adr ∧ (∀ p ∈ ps c, m p.1 = some p.2) ∧ (∀ z, (∀ p ∈ ps c, z ≠ p.1) → stored.contains z = false → m z = m₀ z) ∧ P c (add ++ I₀)

theorem fr_kst {L : Addr} {h : Heap} {ps : List (Str × Value)} {stored : List Str} {m₀ m₁ : Str → Option Value} (h1 : ∀ p ∈ ps, m₁ p.1 = some p.2) (h2 : ∀ z, (∀ p ∈ ps, z ≠ p.1) → stored.contains z = false → m₁ z = m₀ z)
    (F : Fr h₀ L h m₁) : Fr h₀ L h (kstB (fun z => if stored.contains z then m₁ z else m₀ z) ps) := by
  have em : kstB (fun z => if stored.contains z then m₁ z else m₀ z) ps = m₁ := by
    funext y
    refine kstB_eq h1 fun hn => ?_
    show (if stored.contains y = true then m₁ y else m₀ y) = m₁ y
    cases h3 : stored.contains y with
    | true => simp
    | false => simp only [Bool.false_eq_true, if_false]; exact (h2 y hn h3).symm
  rw [em]; exact F

theorem same_ite {z x : Str} {i : Decidable (z = x)} {v r0 r : Option Value} (h : z ≠ x) (k : r0 = r) : (if z = x then v else r0) = r := by rw [if_neg h]; exact k
theorem ne_st {l : List Str} {z x : Str} (k : l.contains z = false) (h : x ∈ l) : z ≠ x := fun e => by
  subst e
  have := List.contains_iff_mem.mpr h
  rw [k] at this; cases this
theorem ne_ps {ps : List (Str × Value)} {z x : Str} {v : Value} (k : ∀ p ∈ ps, z ≠ p.1) (h : (x, v) ∈ ps) : z ≠ x := k _ h
theorem kst_skip {rest : Str → Option Value} {z : Str} : ∀ {ps ps' : List (Str × Value)}, (∀ p ∈ ps', z ≠ p.1) → ps.map (·.1) = ps'.map (·.1) → kstB rest ps z = rest z
  | [], _, _, _ => rfl
  | p :: r, [], _, e => nomatch e
  | p :: r, q :: r', h, e => by
    have e1 : p.1 = q.1 := (List.cons.inj e).1
    show (if z = p.1 then some p.2 else kstB rest r z) = rest z
    rw [if_neg (e1 ▸ h q (.head _))]
    exact kst_skip (fun x hx => h x (.tail _ hx)) (List.cons.inj e).2
theorem kst_same {ps ps' : List (Str × Value)} {stored : List Str} {u m₀ : Str → Option Value} {z : Str} (h : ∀ p ∈ ps', z ≠ p.1) (k : stored.contains z = false) (e : ps.map (·.1) = ps'.map (·.1)) :
    kstB (fun z => if stored.contains z then u z else m₀ z) ps z = m₀ z := by
  rw [kst_skip h e]
  show (if stored.contains z = true then u z else m₀ z) = m₀ z
  rw [if_neg (by rw [k]; exact Bool.false_ne_true)]
theorem kst_sub {stored stored2 : List Str} {u m₀ : Str → Option Value} {z : Str} {r : Option Value} (k : stored2.contains z = false) (e : stored.all stored2.contains = true) (h : m₀ z = r) : kstB (fun z => if stored.contains z then u z else m₀ z) [] z = r := by
  have hk : stored.contains z = false := by
    cases hz : stored.contains z with
    | false => rfl
    | true => have := List.all_eq_true.mp e z (List.contains_iff_mem.mp hz); rw [k] at this; cases this
  show (if stored.contains z = true then u z else m₀ z) = r
  rw [if_neg (by rw [hk]; exact Bool.false_ne_true)]; exact h
theorem floop {σ : Type} {I : Addr} {fp wr : List Addr} {n : Nat} {V Md : Nat → Value → Heap → Prop} {St : Nat → Heap → Prop} {m₀ : Str → Option Value}
    (LedM : σ → Led) (ps : σ → List (Str × Value)) (stored : List Str) (P : Nat → σ → Led → Prop) (adr : List Addr) (c₀ : σ) (I₀ : Led)
    (W : KTurns prog w A target I fp wr n V Md St) (hob : ∀ i h, St i h → ∀ b ∈ wr, ∃ o, h.get? b = some o) (hLf : env.locals ∉ fp) (hwr : ∀ b ∈ wr, h₀.get? b = none)
    (hfp : ∀ b ∈ fp, b ∈ wr ∨ ∃ o, (b, o) ∈ I₀)
    (hnw : ∀ p ∈ LedM c₀ ++ I₀, p.1 ∉ wr) (hst : St 0 s.heap)
    (F : Fr h₀ env.locals s.heap m₀) (N : News h₀ env.locals s.heap (LedM c₀ ++ I₀)) (hadr : ∀ c, (LedM c).map (·.1) = adr) (ho : OwnOff I₀ adr)
    (hk : ∀ p ∈ ps c₀, m₀ p.1 = some p.2) (hp : P 0 c₀ I₀)
    (turn : ∀ i v c add (u : Str → Option Value) h tk own, i < n → V i v h → Ab (LedM c ++ I₀) add → OwnOff ((add ++ I₀) ++ own) adr → OwnOff own ((add ++ I₀).map (·.1)) → P i c (add ++ I₀) →
      Fr h₀ env.locals h (kstB (fun z => if stored.contains z then u z else m₀ z) (ps c)) → News h₀ env.locals h (LedM c ++ ((add ++ I₀) ++ own)) →
      wpAny (model prog w) A (assign target env v) (fun _ s₃ => wpAny (model prog w) A (execs body env) (LPost h₀ env.locals LedM ps stored m₀ (P (i + 1)) (add ++ I₀) own { s with heap := h, toks := tk } Q) E s₃) E { s with heap := h, toks := tk })
    (done : ∀ c add (u : Str → Option Value) h tk, Ab (LedM c ++ I₀) add → OwnOff (add ++ I₀) adr → P n c (add ++ I₀) → Fr h₀ env.locals h (kstB (fun z => if stored.contains z then u z else m₀ z) (ps c)) → News h₀ env.locals h (LedM c ++ (add ++ I₀)) → Q .next { s with heap := h, toks := tk }) :
    TurnsAt prog w A h₀ env target body Q E (.ref I) s := by
  refine ⟨I, fp, wr, n, V, Md, St, m₀, LedM c₀ ++ I₀, (fun i => LInv LedM ps stored m₀ I₀ adr (P i)), rfl, W, hLf, hwr, hnw, hst, F, N, ⟨c₀, [], rfl, Ab.nil, ho, hk, fun _ _ _ => rfl, hp⟩, ?_, ?_⟩
  · rintro i v m₁ news₁ h₁ tk₁ own hin hV ⟨c, add, rfl, hab, hoo, h1, h2, hP⟩ hoff hown hget hmem hst' F₁ N₁
    -- the iterator's own objects alone
    have hoff' : OwnOff (own.filter fun p => decide (p.1 ∈ wr)) ((add ++ I₀).map (·.1)) := by
      intro p hp b hb e
      obtain ⟨q, hq, rfl⟩ := List.mem_map.mp hb
      have hpw : p.1 ∈ wr := by simpa using (List.mem_filter.mp hp).2
      exact hoff q (List.mem_append.mpr (.inr hq)) (e ▸ hpw)
    have hoffA : OwnOff ((add ++ I₀) ++ own.filter fun p => decide (p.1 ∈ wr)) adr := by
      intro p hp b hb e
      rcases List.mem_append.mp hp with h | h
      · exact hoo p h b hb e
      · have hpw : p.1 ∈ wr := by simpa using (List.mem_filter.mp h).2
        rw [← hadr c] at hb
        obtain ⟨q, hq, rfl⟩ := List.mem_map.mp hb
        exact hoff q (List.mem_append.mpr (.inl hq)) (e ▸ hpw)
    have N₂ : News h₀ env.locals h₁ (LedM c ++ ((add ++ I₀) ++ own.filter fun p => decide (p.1 ∈ wr))) := fun p hp => by
      rcases List.mem_append.mp hp with h | h
      · exact N₁ p (List.mem_append.mpr (.inr (List.mem_append.mpr (.inl h))))
      · rcases List.mem_append.mp h with h | h
        · exact N₁ p (List.mem_append.mpr (.inr (List.mem_append.mpr (.inr h))))
        · exact N₁ p (List.mem_append.mpr (.inl (List.mem_filter.mp h).1))
    refine wpAny_mono (turn i v c add m₁ h₁ tk₁ _ hin hV hab hoffA hoff' hP (fr_kst h1 h2 F₁) N₂) (fun _ s₃ hw => wpAny_mono hw (fun f s₂ p => ?_) fun _ _ e => e) fun _ _ e => e
    have fin : LEnd h₀ env.locals LedM ps stored m₀ (P (i + 1)) (add ++ I₀) (own.filter fun p => decide (p.1 ∈ wr)) { s with heap := h₁, toks := tk₁ } s₂ →
        LoopStepU h₀ env.locals wr own (LInv LedM ps stored m₀ I₀ adr (P (i + 1))) { s with heap := h₁, toks := tk₁ } .next s₂ := by
      rintro ⟨h', tk, m', news', c', add', e, F', N', hn, ha, k1, k2, hP'⟩
      have ownIn : ∀ p ∈ own, p ∈ LedM c' ++ (add' ++ ((add ++ I₀) ++ own.filter fun p => decide (p.1 ∈ wr))) := by
        intro p hp
        by_cases hw : p.1 ∈ wr
        · exact List.mem_append.mpr (.inr (List.mem_append.mpr (.inr (List.mem_append.mpr (.inr (List.mem_filter.mpr ⟨hp, by simpa using hw⟩))))))
        · rcases hfp p.1 (hown p hp) with h | ⟨o, h⟩
          · exact absurd h hw
          · have e1 := hget p hp
            have e2 := (N₁ _ (List.mem_append.mpr (.inr (List.mem_append.mpr (.inr (List.mem_append.mpr (.inr h))))))).1
            rw [e1] at e2
            have e3 : p = (p.1, o) := Prod.ext rfl (Option.some.inj e2)
            rw [e3]
            exact List.mem_append.mpr (.inr (List.mem_append.mpr (.inr (List.mem_append.mpr (.inl (List.mem_append.mpr (.inr h)))))))
      have addOff : ∀ p ∈ add', p.1 ∉ wr := by
        intro p hp hw
        obtain ⟨o, ho⟩ := hob _ _ hst' _ hw
        have hm := hmem _ (W.sub _ hw) (hwr _ hw) o ho
        have := ha p hp (p.1, o) (List.mem_append.mpr (.inr (List.mem_append.mpr (.inr (List.mem_filter.mpr ⟨hm, by simpa using hw⟩)))))
        exact absurd rfl this
      refine ⟨rfl, h', tk, m', LedM c' ++ ((add' ++ add) ++ I₀), e, F', ?_, ?_, c', add' ++ add, rfl, ?_, ?_, k1, k2, ?_⟩
      · intro p hp
        refine N' p (hn p ?_)
        rcases List.mem_append.mp hp with h | h
        · exact ownIn p h
        · rcases List.mem_append.mp h with h | h
          · exact List.mem_append.mpr (.inl h)
          · rcases List.mem_append.mp h with h | h
            · rcases List.mem_append.mp h with h | h
              · exact List.mem_append.mpr (.inr (List.mem_append.mpr (.inl h)))
              · exact List.mem_append.mpr (.inr (List.mem_append.mpr (.inr (List.mem_append.mpr (.inl (List.mem_append.mpr (.inl h)))))))
            · exact List.mem_append.mpr (.inr (List.mem_append.mpr (.inr (List.mem_append.mpr (.inl (List.mem_append.mpr (.inr h)))))))
      · intro p hp hw
        rcases List.mem_append.mp hp with h | h
        · have : p.1 ∈ (LedM c).map (·.1) := by rw [hadr c, ← hadr c']; exact List.mem_map.mpr ⟨p, h, rfl⟩
          obtain ⟨q, hq, e⟩ := List.mem_map.mp this
          exact hoff q (List.mem_append.mpr (.inl hq)) (e ▸ hw)
        · rcases List.mem_append.mp h with h | h
          · rcases List.mem_append.mp h with h | h
            · exact addOff p h hw
            · exact hoff p (List.mem_append.mpr (.inr (List.mem_append.mpr (.inl h)))) hw
          · exact hoff p (List.mem_append.mpr (.inr (List.mem_append.mpr (.inr h)))) hw
      · intro q hq p hp
        rcases List.mem_append.mp hq with h | h
        · refine ha q h p ?_
          rcases List.mem_append.mp hp with h' | h'
          · exact List.mem_append.mpr (.inl h')
          · exact List.mem_append.mpr (.inr (List.mem_append.mpr (.inl (List.mem_append.mpr (.inr h')))))
        · rcases List.mem_append.mp hp with h' | h'
          · have : p.1 ∈ (LedM c).map (·.1) := by rw [hadr c, ← hadr c']; exact List.mem_map.mpr ⟨p, h', rfl⟩
            obtain ⟨r, hr, e⟩ := List.mem_map.mp this
            rw [← e]; exact hab q h r (List.mem_append.mpr (.inl hr))
          · exact hab q h p (List.mem_append.mpr (.inr h'))
      · intro p hp b hb e
        rw [List.append_assoc] at hp
        rcases List.mem_append.mp hp with h | h
        · rw [← hadr c'] at hb
          obtain ⟨r, hr, rfl⟩ := List.mem_map.mp hb
          exact ha p h r (List.mem_append.mpr (.inl hr)) e.symm
        · exact hoo p h b hb e
      · rw [List.append_assoc]; exact hP'
    cases f with
    | ret v => exact .ret p
    | brk => exact .brk p
    | next => exact .next (fin p)
    | cont => exact .cont (fin p)
  · rintro h' tk m' news' F' N' hoff ⟨c, add, rfl, hab, hoo, h1, h2, hP⟩
    exact done c add m' h' tk hab hoo hP (fr_kst h1 h2 F') N'

/-- over a list of the ledger -/
theorem floop_list {σ : Type} {l : Addr} {vs : List Value} {nn : Nat} {m₀ : Str → Option Value} {news : Led}
    (LedM : σ → Led) (ps : σ → List (Str × Value)) (stored : List Str) (P : Nat → σ → Led → Prop) (adr : List Addr) (c₀ : σ) (I₀ : Led)
    (hh : A.handled = none) (hl : (l, listOf vs.toArray nn) ∈ I₀) (F : Fr h₀ env.locals s.heap m₀) (N : News h₀ env.locals s.heap news) (hn : ∀ p ∈ LedM c₀ ++ I₀, p ∈ news) (hadr : ∀ c, (LedM c).map (·.1) = adr) (ho : OwnOff I₀ adr)
    (hk : ∀ p ∈ ps c₀, m₀ p.1 = some p.2) (hp : P 0 c₀ I₀)
    (turn : ∀ i v c add (u : Str → Option Value) h tk own (Q9 : Flow → Shared → Prop), (∀ f s₂, LPost h₀ env.locals LedM ps stored m₀ (P (i + 1)) (add ++ I₀) own { s with heap := h, toks := tk } Q f s₂ → Q9 f s₂) → vs[i]? = some v → Ab (LedM c ++ I₀) add → OwnOff ((add ++ I₀) ++ own) adr → OwnOff own ((add ++ I₀).map (·.1)) → P i c (add ++ I₀) →
      Fr h₀ env.locals h (kstB (fun z => if stored.contains z then u z else m₀ z) (ps c)) → News h₀ env.locals h (LedM c ++ ((add ++ I₀) ++ own)) →
      wpAny (model prog w) A (assign target env v) (fun _ s₃ => wpAny (model prog w) A (execs body env) Q9 E s₃) E { s with heap := h, toks := tk })
    (done : ∀ c add (u : Str → Option Value) h tk, Ab (LedM c ++ I₀) add → OwnOff (add ++ I₀) adr → P vs.length c (add ++ I₀) → Fr h₀ env.locals h (kstB (fun z => if stored.contains z then u z else m₀ z) (ps c)) → News h₀ env.locals h (LedM c ++ (add ++ I₀)) → Q .next { s with heap := h, toks := tk }) :
    wpAny (model prog w) A (pyIter (.ref l)) (fun it s₂ => TurnsAt prog w A h₀ env target body Q E it s₂) E s := by
  have N' : News h₀ env.locals s.heap (LedM c₀ ++ I₀) := fun p hp => N p (hn p hp)
  have hol : s.heap.get? l = some (listOf vs.toArray nn) := (N' _ (List.mem_append.mpr (.inr hl))).1
  have hls : s.heap.IsList l vs.toArray := ⟨_, hol, rfl, nn, rfl⟩
  have hlt := Heap.lt_size hol
  have hne : l ≠ s.heap.objs.size := Nat.ne_of_lt hlt
  refine wpAny_pyIter_list hls ?_
  refine floop (V := fun i v _ => vs.toArray[i]? = some v) LedM ps stored P adr c₀ I₀ (KTurns.ofWalks (Walks.list hh s.heap.objs.size l hne vs.toArray) fun i v s Q E st q => letGo_listiter st.1 q) ?_ ?_ ?_ ?_ ?_ ?_ (F.push _) (fun p hp => ⟨Heap.get?_push_of_some _ (N' p hp).1, (N' p hp).2⟩) hadr ho hk hp ?_ ?_
  · intro i h st b hb
    obtain ⟨it, hit, hic, _⟩ := st.1
    rw [List.mem_singleton.mp hb]; exact ⟨it, hit⟩
  · intro hI
    rcases List.mem_cons.mp hI with e | hI
    · exact absurd F.ns.lt (e ▸ Nat.lt_irrefl _)
    · exact (N' _ (List.mem_append.mpr (.inr hl))).2.1 (List.mem_singleton.mp hI).symm
  · intro b hb
    rw [List.mem_singleton.mp hb]; exact next_is_new F
  · intro b hb
    rcases List.mem_cons.mp hb with e | e
    · exact .inl (by rw [e]; exact List.mem_cons_self)
    · exact .inr ⟨_, by rw [List.mem_singleton.mp e]; exact hl⟩
  · intro p hp hI
    exact absurd (Heap.lt_size (N' p hp).1) ((List.mem_singleton.mp hI) ▸ Nat.lt_irrefl _)
  · exact ⟨⟨_, Heap.get?_push_size _ rfl, rfl, rfl⟩, hls.at fun o e => Heap.get?_push_of_some _ e⟩
  · intro i v c add u h tk own _ hV hab hoo hoo2 hP F₁ N₁
    exact turn i v c add u h tk own _ (fun _ _ h => h) (by simpa using hV) hab hoo hoo2 hP F₁ N₁
  · intro c add u h tk hab hoo hP F₁ N₁
    exact done c add u h tk hab hoo (by simpa using hP) F₁ N₁

/-- over a range by ones -/
theorem floop_range {σ : Type} {x : Str} {px : Pos} {r : Addr} {a₀ b₀ : Int} {t₀ u₀ v₀ : Tok} {n : Nat} {m₀ : Str → Option Value} {news : Led}
    (LedM : σ → Led) (ps : σ → List (Str × Value)) (stored : List Str) (P : Nat → σ → Led → Prop) (adr : List Addr) (c₀ : σ) (I₀ : Led)
    (hh : A.handled = none) (hr : IsRange s.heap r a₀ b₀ 1 t₀ u₀ v₀) (hsmall : Builtin.Range.small a₀ b₀ 1 = true) (hsz : Builtin.Range.rangeSize a₀ b₀ 1 = (n : Int)) (F : Fr h₀ env.locals s.heap m₀) (N : News h₀ env.locals s.heap news) (hn : ∀ p ∈ LedM c₀ ++ I₀, p ∈ news) (hadr : ∀ c, (LedM c).map (·.1) = adr) (ho : OwnOff I₀ adr)
    (hk : ∀ p ∈ ps c₀, m₀ p.1 = some p.2) (hp : P 0 c₀ I₀)
    (turn : ∀ (i : Nat) (t : Tok) c add (u : Str → Option Value) h tk own (Q9 : Flow → Shared → Prop), (∀ f s₂, LPost h₀ env.locals LedM ps stored m₀ (P (i + 1)) (add ++ I₀) own { s with heap := h, toks := tk } Q f s₂ → Q9 f s₂) → i < n → Ab (LedM c ++ I₀) add → OwnOff ((add ++ I₀) ++ own) adr → OwnOff own ((add ++ I₀).map (·.1)) → P i c (add ++ I₀) →
      Fr h₀ env.locals h (kstB (fun z => if stored.contains z then u z else m₀ z) (ps c)) → News h₀ env.locals h (LedM c ++ ((add ++ I₀) ++ own)) →
      wpAny (model prog w) A (assign (.Name x px) env (.int (a₀ + (i : Int)) t)) (fun _ s₃ => wpAny (model prog w) A (execs body env) Q9 E s₃) E { s with heap := h, toks := tk })
    (done : ∀ c add (u : Str → Option Value) h tk, Ab (LedM c ++ I₀) add → OwnOff (add ++ I₀) adr → P n c (add ++ I₀) → Fr h₀ env.locals h (kstB (fun z => if stored.contains z then u z else m₀ z) (ps c)) → News h₀ env.locals h (LedM c ++ (add ++ I₀)) → Q .next { s with heap := h, toks := tk }) :
    wpAny (model prog w) A (pyIter (.ref r)) (fun it s₂ => TurnsAt prog w A h₀ env (.Name x px) body Q E it s₂) E s := by
  have N' : News h₀ env.locals s.heap (LedM c₀ ++ I₀) := fun p hp => N p (hn p hp)
  refine wpAny_pyIter_range hr hsmall ?_
  have W : Walks prog w A s.heap.objs.size [s.heap.objs.size] [s.heap.objs.size] n (fun i v => i < n ∧ ∃ t, v = .int (a₀ + i * 1) t)
      (fun i h => IsRangeIter h s.heap.objs.size (a₀ + (i : Nat) * 1) ((n : Int) - (i : Nat)) 1) := (Walks.range hh _ a₀ 1 n).bound
  refine floop (V := fun i v _ => i < n ∧ ∃ t, v = .int (a₀ + i * 1) t) LedM ps stored P adr c₀ I₀ (KTurns.ofWalks W ?_) ?_ ?_ ?_ ?_ ?_ (by show IsRangeIter _ _ _ _ _; rw [hsz]; simpa using Heap.get?_push_size _ rfl) (F.push _) (fun p hp => ⟨Heap.get?_push_of_some _ (N' p hp).1, (N' p hp).2⟩) hadr ho hk hp ?_ ?_
  · intro i v s Q E st q
    unfold letOwnedTupleGo; exact wpAny_pure q
  · intro i h st b hb
    rw [List.mem_singleton.mp hb]; exact ⟨_, st⟩
  · intro hI
    exact absurd F.ns.lt ((List.mem_singleton.mp hI) ▸ Nat.lt_irrefl _)
  · intro b hb
    rw [List.mem_singleton.mp hb]; exact next_is_new F
  · intro b hb; exact .inl hb
  · intro p hp hI
    exact absurd (Heap.lt_size (N' p hp).1) ((List.mem_singleton.mp hI) ▸ Nat.lt_irrefl _)
  · rintro i v c add u h tk own _ ⟨hi, t, rfl⟩ hab hoo hoo2 hP F₁ N₁
    have e1 : a₀ + (i : Int) * 1 = a₀ + (i : Int) := by omega
    rw [e1]
    exact turn i t c add u h tk own _ (fun _ _ h => h) hi hab hoo hoo2 hP F₁ N₁
  · intro c add u h tk hab hoo hP F₁ N₁
    exact done c add u h tk hab hoo hP F₁ N₁
end
end Mine
end

section
open PySem PySem.W PyProof.Rows PySem.Calls
set_option maxRecDepth 100000
namespace Mine
noncomputable abbrev P2 := Int × Int
noncomputable abbrev pairObj (x y : Int) (t u : Tok) (n : Nat) : Obj := { cls := .type "tuple", data := .seq [.int x t, .int y u].toArray n }
inductive PairIn (I : Led) : Value → P2 → Prop
  | mk {a : Addr} {x y : Int} {t u : Tok} {n : Nat} : (a, pairObj x y t u n) ∈ I → PairIn I (.ref a) (x, y)
inductive PairsIn (I : Led) : List Value → List P2 → Prop
  | nil : PairsIn I [] []
  | cons {v vs p ps} : PairIn I v p → PairsIn I vs ps → PairsIn I (v :: vs) (p :: ps)
noncomputable def RngIn (I : Led) (l : Addr) (ps : List P2) : Prop := ∃ vs n, (l, listOf vs.toArray n) ∈ I ∧ PairsIn I vs ps

noncomputable def IntsIn (I : Led) (a : Addr) (ns : List Int) : Prop := ∃ vs n, (a, listOf vs.toArray n) ∈ I ∧ IntsAre vs ns
theorem IntsIn.mono {I J : Led} {a ns} (h : IntsIn I a ns) (hs : ∀ p ∈ I, p ∈ J) : IntsIn J a ns := let ⟨vs, n, h, k⟩ := h; ⟨vs, n, hs _ h, k⟩
theorem PairIn.mono {I J : Led} {v p} (h : PairIn I v p) (hs : ∀ p ∈ I, p ∈ J) : PairIn J v p := by cases h with | mk h => exact .mk (hs _ h)
theorem PairsIn.mono {I J : Led} {vs ps} (h : PairsIn I vs ps) (hs : ∀ p ∈ I, p ∈ J) : PairsIn J vs ps := by
  induction h with
  | nil => exact .nil
  | cons h _ ih => exact .cons (h.mono hs) ih
theorem RngIn.mono {I J : Led} {l ps} (h : RngIn I l ps) (hs : ∀ p ∈ I, p ∈ J) : RngIn J l ps := let ⟨vs, n, h, k⟩ := h; ⟨vs, n, hs _ h, k.mono hs⟩
theorem PairsIn.length {I : Led} {vs ps} (h : PairsIn I vs ps) : vs.length = ps.length := by
  induction h with
  | nil => rfl
  | cons _ _ ih => simp [ih]
theorem PairsIn.get {I : Led} {vs ps} (h : PairsIn I vs ps) {i : Nat} {v : Value} (hv : vs[i]? = some v) : ∃ p, ps[i]? = some p ∧ PairIn I v p := by
  induction h generalizing i with
  | nil => simp at hv
  | cons h _ ih =>
    cases i with
    | zero => simp at hv; subst hv; exact ⟨_, rfl, h⟩
    | succ i => simpa using ih (by simpa using hv)
theorem PairsIn.append {I : Led} {vs ps ws qs} (h : PairsIn I vs ps) (k : PairsIn I ws qs) : PairsIn I (vs ++ ws) (ps ++ qs) := by
  induction h with
  | nil => exact k
  | cons h _ ih => exact .cons h ih
theorem PairsIn.take {I : Led} {vs ps} (h : PairsIn I vs ps) : ∀ k : Nat, PairsIn I (vs.take k) (ps.take k) := by
  induction h with
  | nil => intro k; simp; exact .nil
  | cons h _ ih =>
    intro k
    cases k with
    | zero => exact .nil
    | succ k => exact .cons h (ih k)
theorem PairsIn.drop {I : Led} {vs ps} (h : PairsIn I vs ps) : ∀ k : Nat, PairsIn I (vs.drop k) (ps.drop k) := by
  induction h with
  | nil => intro k; simp; exact .nil
  | cons h h2 ih =>
    intro k
    cases k with
    | zero => exact .cons h h2
    | succ k => exact ih k
theorem PairsIn.reverse {I : Led} {vs ps} (h : PairsIn I vs ps) : PairsIn I vs.reverse ps.reverse := by
  induction h with
  | nil => exact .nil
  | cons h _ ih => rw [List.reverse_cons, List.reverse_cons]; exact ih.append (.cons h .nil)
theorem PairsIn.snoc {I : Led} {vs ps v p} (h : PairsIn I vs ps) (k : PairIn I v p) : PairsIn I (vs ++ [v]) (ps ++ [p]) := h.append (.cons k .nil)

/- the text's add_range, in plain Lean -/
set_option genSizeOf false in
set_option genInjectivity false in
structure ArS where
  f : List P2
  b : Bool
  lo : Int
  hi : Int
noncomputable def arStep (s : ArS) (o : P2) : ArS :=
  if o.1 > s.hi + 1 then { s with f := s.f ++ [o] }
  else if o.2 < s.lo - 1 then { s with f := (if s.b then s.f else s.f ++ [(s.lo, s.hi)]) ++ [o], b := true }
  else { s with lo := if o.1 < s.lo then o.1 else s.lo, hi := if o.2 > s.hi then o.2 else s.hi }
theorem foldl_take_succ {α β : Type} (f : β → α → β) (z : β) {ps : List α} {i : Nat} {p : α} (hp : ps[i]? = some p) : (ps.take (i + 1)).foldl f z = f ((ps.take i).foldl f z) p := by
  rw [List.take_add_one, hp, List.foldl_append]; rfl
theorem arStep_1 {f : List P2} {b : Bool} {lo hi x y : Int} (h : hi + 1 < x) : arStep ⟨f, b, lo, hi⟩ (x, y) = ⟨f ++ [(x, y)], b, lo, hi⟩ := by
  simp only [arStep]; rw [if_pos h]
theorem arStep_2 {f : List P2} {b : Bool} {lo hi x y : Int} (h : ¬ hi + 1 < x) (k : y < lo - 1) (e : b = true) : arStep ⟨f, b, lo, hi⟩ (x, y) = ⟨f ++ [(x, y)], b, lo, hi⟩ := by
  simp only [arStep]; rw [if_neg h, if_pos k]; subst e; rfl
theorem arStep_3 {f : List P2} {b : Bool} {lo hi x y : Int} (h : ¬ hi + 1 < x) (k : y < lo - 1) (e : b = false) : arStep ⟨f, b, lo, hi⟩ (x, y) = ⟨(f ++ [(lo, hi)]) ++ [(x, y)], true, lo, hi⟩ := by
  simp only [arStep]; rw [if_neg h, if_pos k]; subst e; rfl
theorem arStep_4 {f : List P2} {b : Bool} {lo hi x y : Int} (h : ¬ hi + 1 < x) (k : ¬ y < lo - 1) : arStep ⟨f, b, lo, hi⟩ (x, y) = ⟨f, b, if x < lo then x else lo, if y > hi then y else hi⟩ := by
  simp only [arStep]; rw [if_neg h, if_neg k]
noncomputable def addRange (ps : List P2) (lo hi : Int) : List P2 :=
  let s := ps.foldl arStep ⟨[], false, lo, hi⟩
  if s.b then s.f else s.f ++ [(s.lo, s.hi)]
noncomputable def pruneR (ps : List P2) (low : Int) : List P2 := (ps.filter fun p => decide (p.2 ≥ low)).map fun p => (if low > p.1 then low else p.1, p.2)
noncomputable def gapsOf : Int → List P2 → List P2
  | _, [] => []
  | bf, p :: ps => (bf - p.2 - 2, p.2 - p.1) :: gapsOf p.1 ps
noncomputable def lastLo : Int → List P2 → Int
  | bf, [] => bf
  | _, p :: ps => lastLo p.1 ps
theorem gapsOf_snoc (p : P2) : ∀ (ps : List P2) (bf : Int), gapsOf bf (ps ++ [p]) = gapsOf bf ps ++ [(lastLo bf ps - p.2 - 2, p.2 - p.1)]
  | [], _ => rfl
  | q :: ps, bf => by show _ :: gapsOf q.1 (ps ++ [p]) = _; rw [gapsOf_snoc p ps q.1]; rfl
theorem gapsOf_len : ∀ (ps : List P2) (bf : Int), (gapsOf bf ps).length = ps.length
  | [], _ => rfl
  | q :: ps, bf => by show (gapsOf q.1 ps).length + 1 = _; rw [gapsOf_len ps q.1]; rfl
theorem lastLo_snoc (p : P2) : ∀ (ps : List P2) (bf : Int), lastLo bf (ps ++ [p]) = p.1
  | [], _ => rfl
  | q :: ps, bf => lastLo_snoc p ps q.1
theorem take_succ_snoc {α : Type} {ps : List α} {i : Nat} {p : α} (hp : ps[i]? = some p) : ps.take (i + 1) = ps.take i ++ [p] := by
  rw [List.take_add_one, hp]; rfl
noncomputable def hasNum (ps : List P2) (x : Int) : Bool := ps.any fun p => decide (p.1 ≤ x ∧ x ≤ p.2)
theorem map_take_succ {α β : Type} (f : α → β) {ps : List α} {i : Nat} {p : α} (hp : ps[i]? = some p) : (ps.take (i + 1)).map f = (ps.take i).map f ++ [f p] := by
  rw [List.take_add_one, hp, List.map_append]; rfl
theorem boolsAre_map {α : Type} (f : α → Bool) (ps : List α) : LSm.BoolsAre (ps.map fun p => Value.bool (f p)) (ps.map f) := by
  induction ps with
  | nil => exact .nil
  | cons b bs ih => exact .cons _ ih
theorem hasNum_any (ps : List P2) (x : Int) : (ps.map fun p => decide (p.1 ≤ x ∧ x ≤ p.2)).any id = hasNum ps x := by
  rw [List.any_map]; rfl
theorem pruneR_yes {ps : List P2} {i : Nat} {x y low : Int} (hp : ps[i]? = some (x, y)) (h : low ≤ y) : pruneR (ps.take (i + 1)) low = pruneR (ps.take i) low ++ [(if low > x then low else x, y)] := by
  unfold pruneR
  rw [List.take_add_one, hp, List.filter_append, List.map_append]
  simp [h]
theorem pruneR_no {ps : List P2} {i : Nat} {x y low : Int} (hp : ps[i]? = some (x, y)) (h : ¬ low ≤ y) : pruneR (ps.take (i + 1)) low = pruneR (ps.take i) low := by
  unfold pruneR
  rw [List.take_add_one, hp, List.filter_append, List.map_append]
  simp [h]
theorem filter_yes {α : Type} {f : α → Bool} {ns : List α} {i : Nat} {x : α} (hp : ns[i]? = some x) (h : f x = true) : (ns.take (i + 1)).filter f = (ns.take i).filter f ++ [x] := by
  rw [List.take_add_one, hp, List.filter_append]; simp [h]
theorem filter_no {α : Type} {f : α → Bool} {ns : List α} {i : Nat} {x : α} (hp : ns[i]? = some x) (h : f x = false) : (ns.take (i + 1)).filter f = (ns.take i).filter f := by
  rw [List.take_add_one, hp, List.filter_append]; simp [h]
section
variable {prog : Program} {w : World} {A : Around} {E : Value → Shared → Prop} {s : Shared} {h₀ : Heap} {L D : Addr} {m : Str → Option Value} {news news' : Led}
theorem append_L {its : List Value} {n : Nat} {x : Value} {Q : Value → Shared → Prop} (F : Fr h₀ L s.heap m) (N : News h₀ L s.heap news) (U : Upd D (listOf its.toArray n) (listOf (its ++ [x]).toArray (n + 1)) news news')
    (hsz : its.length ≤ sizeLine) (h : ∀ h', Fr h₀ L h' m → News h₀ L h' news' → Q .none { s with heap := h' }) : wpAny (model prog w) A (call (.builtin "list.append") [.ref D, x]) Q E s := by
  have e : (its ++ [x]).toArray = its.toArray.push x := by simp
  rw [e] at U
  exact append_K (hsz := by simpa using hsz) F N U h
end
end Mine
end

section
open PySem PySem.W PyProof.Rows PySem.Calls
set_option maxRecDepth 100000
namespace Mine
open LCg LCt LCp
section
variable {prog : Program} {w : World} {A : Around} {E : Value → Shared → Prop} {s : Shared} {h₀ : Heap} {L : Addr} {m : Str → Option Value} {env : Env}

theorem CompEnd.mono' {s₁ : Shared} {I C D : Addr} {oI oC oD : Obj} {S : Led → Prop} {r r' : Value → Led → Prop} {y : Value} {s₂ : Shared} (h : CompEnd h₀ L m s₁ I oI C oC D oD S r y s₂) (k : ∀ y n, r y n → r' y n) : CompEnd h₀ L m s₁ I oI C oC D oD S r' y s₂ := by
  obtain ⟨h', tk, news', e, F, N, o, hS, hr⟩ := h
  exact ⟨h', tk, news', e, F, N, o, hS, k _ _ hr⟩

theorem restU_ind {elt : Expr} {x : Str} {scope : Scope} {cl : List (Str × Addr)} {S : Led → Prop} {P : Nat → Value → Prop} {Fin : List Value → Led → Prop} {n : Nat} {news : Led} (Inv : Nat → List Value → Led → Prop)
    (h0 : Inv 0 [] news)
    (step : ∀ i ys news, i < n → Inv i ys news → ∀ v I oI C oC D m₂ h tk (E' : Value → Shared → Prop), P i v → NsObj oC m₂ → m₂ x = some v → Fr h₀ L h m → News h₀ L h ((I, oI) :: (C, oC) :: (D, lst ys) :: news) → Off3 I C D news → ((@Ne Nat I C) ∧ (@Ne Nat I D) ∧ (@Ne Nat C D)) →
      wpAny (model prog w) A (eval elt (compEnvC scope cl C env)) (CompEnd h₀ L m { s with heap := h, toks := tk } I oI C oC D (lst ys) S (fun y news' => Inv (i + 1) (ys ++ [y]) news')) E' { s with heap := h, toks := tk })
    (fin : ∀ ys news, Inv n ys news → Fin ys news) : CompRest prog w A h₀ L m env elt x scope cl s S P Fin n 0 [] news := by
  have all : ∀ k i ys news, i + k = n → Inv i ys news → CompRest prog w A h₀ L m env elt x scope cl s S P Fin k i ys news := by
    intro k
    induction k with
    | zero => intro i ys news e h; exact fin ys news (by rw [← e]; exact h)
    | succ k ih =>
      intro i ys news e h v I oI C oC D m₂ h' tk E' a1 a2 a3 a4 a5 a6 a7
      exact wpAny_mono (step i ys news (by (first | lia | omega)) h v I oI C oC D m₂ h' tk E' a1 a2 a3 a4 a5 a6 a7) (fun y s₂ hc => CompEnd.mono' hc fun y n hi => ih (i + 1) _ n (by (first | lia | omega)) hi) fun _ _ e => e
  exact all n 0 [] news (by (first | lia | omega)) h0

theorem restT_ind {ct elt : Expr} {x : Str} {scope : Scope} {cl : List (Str × Addr)} {S : Led → Prop} {P : Nat → Value → Prop} {Fin : List Value → Led → Prop} {n : Nat} {news : Led} (Inv : Nat → List Value → Led → Prop)
    (h0 : Inv 0 [] news)
    (step : ∀ i ys news, i < n → Inv i ys news → ∀ v I oI C oC D m₂ h tk (E' : Value → Shared → Prop), P i v → NsObj oC m₂ → m₂ x = some v → Fr h₀ L h m → News h₀ L h ((I, oI) :: (C, oC) :: (D, lst ys) :: news) → Off3 I C D news → ((@Ne Nat I C) ∧ (@Ne Nat I D) ∧ (@Ne Nat C D)) →
      wpAny (model prog w) A (isTrue ct (compEnvC scope cl C env) (eval ct (compEnvC scope cl C env))) (fun ok s' => if ok = true then
        wpAny (model prog w) A (eval elt (compEnvC scope cl C env)) (CompEnd h₀ L m { s with heap := h, toks := tk } I oI C oC D (lst ys) S (fun y news' => Inv (i + 1) (ys ++ [y]) news')) E' s'
        else CompEnd h₀ L m { s with heap := h, toks := tk } I oI C oC D (lst ys) S (fun _ news' => Inv (i + 1) ys news') Value.none s') E' { s with heap := h, toks := tk })
    (fin : ∀ ys news, Inv n ys news → Fin ys news) : CompRestT prog w A h₀ L m env ct elt x scope cl s S P Fin n 0 [] news := by
  have all : ∀ k i ys news, i + k = n → Inv i ys news → CompRestT prog w A h₀ L m env ct elt x scope cl s S P Fin k i ys news := by
    intro k
    induction k with
    | zero => intro i ys news e h; exact fin ys news (by rw [← e]; exact h)
    | succ k ih =>
      intro i ys news e h v I oI C oC D m₂ h' tk E' a1 a2 a3 a4 a5 a6 a7
      refine wpAny_mono (step i ys news (by (first | lia | omega)) h v I oI C oC D m₂ h' tk E' a1 a2 a3 a4 a5 a6 a7) (fun ok s₂ hc => ?_) fun _ _ e => e
      cases ok with
      | true =>
        simp only [if_true] at hc ⊢
        exact wpAny_mono hc (fun y s₃ hc => CompEnd.mono' hc fun y n hi => ih (i + 1) _ n (by (first | lia | omega)) hi) fun _ _ e => e
      | false =>
        simp only [Bool.false_eq_true, if_false] at hc ⊢
        exact CompEnd.mono' hc fun y n hi => ih (i + 1) _ n (by (first | lia | omega)) hi
  exact all n 0 [] news (by (first | lia | omega)) h0

theorem restP_ind {elt : Expr} {x x₂ : Str} {scope : Scope} {cl : List (Str × Addr)} {S : Led → Prop} {P : Nat → Value → Prop} {Fin : List Value → Led → Prop} {n : Nat} {news : Led} (Inv : Nat → List Value → Led → Prop)
    (h0 : Inv 0 [] news)
    (step : ∀ i ys news, i < n → Inv i ys news → ∀ v, P i v → ∃ (t : Addr) (ot : Obj) (v₁ v₂ : Value) (nt : Nat), v = .ref t ∧ (t, ot) ∈ news ∧ ot.cls = .type "tuple" ∧ ot.data = .seq #[v₁, v₂] nt ∧
      ∀ I oI C oC D m₂ h tk (E' : Value → Shared → Prop), NsObj oC m₂ → m₂ x = some v₁ → m₂ x₂ = some v₂ → Fr h₀ L h m → News h₀ L h ((I, oI) :: (C, oC) :: (D, lst ys) :: news) → Off3 I C D news → ((@Ne Nat I C) ∧ (@Ne Nat I D) ∧ (@Ne Nat C D)) →
      wpAny (model prog w) A (eval elt (compEnvC scope cl C env)) (CompEnd h₀ L m { s with heap := h, toks := tk } I oI C oC D (lst ys) S (fun y news' => Inv (i + 1) (ys ++ [y]) news')) E' { s with heap := h, toks := tk })
    (fin : ∀ ys news, Inv n ys news → Fin ys news) : CompRestP prog w A h₀ L m env elt x x₂ scope cl s S P Fin n 0 [] news := by
  have all : ∀ k i ys news, i + k = n → Inv i ys news → CompRestP prog w A h₀ L m env elt x x₂ scope cl s S P Fin k i ys news := by
    intro k
    induction k with
    | zero => intro i ys news e h; exact fin ys news (by rw [← e]; exact h)
    | succ k ih =>
      intro i ys news e h v hv
      obtain ⟨t, ot, v₁, v₂, nt, b1, b2, b3, b4, st⟩ := step i ys news (by (first | lia | omega)) h v hv
      refine ⟨t, ot, v₁, v₂, nt, b1, b2, b3, b4, fun I oI C oC D m₂ h' tk E' a1 a2 a3 a4 a5 a6 a7 => ?_⟩
      exact wpAny_mono (st I oI C oC D m₂ h' tk E' a1 a2 a3 a4 a5 a6 a7) (fun y s₂ hc => CompEnd.mono' hc fun y n hi => ih (i + 1) _ n (by (first | lia | omega)) hi) fun _ _ e => e
  exact all n 0 [] news (by (first | lia | omega)) h0

/-- what an element leaves: the ledger that stood, and new objects above it -/
noncomputable def TEnd (h₀ : Heap) (L : Addr) (m : Str → Option Value) (s₁ : Shared) (three news tl : Led) (R : Value → Led → Prop) (y : Value) (s₂ : Shared) : Prop :=
  ∃ h' tk all add, s₂ = { s₁ with heap := h', toks := tk } ∧ Fr h₀ L h' m ∧ News h₀ L h' all ∧ (∀ p ∈ three ++ (news ++ (tl ++ add)), p ∈ all) ∧ Ab (three ++ (news ++ tl)) add ∧ R y (tl ++ add)
theorem TEnd.intro {s₁ : Shared} {three news tl : Led} {R : Value → Led → Prop} {y : Value} {h' : Heap} {tk : Nat} {all : Led} (add : Led) (F : Fr h₀ L h' m) (N : News h₀ L h' all) (hs : ∀ p ∈ three ++ (news ++ (tl ++ add)), p ∈ all) (ha : Ab (three ++ (news ++ tl)) add) (hr : R y (tl ++ add)) :
    TEnd h₀ L m s₁ three news tl R y { s₁ with heap := h', toks := tk } := ⟨h', tk, all, add, rfl, F, N, hs, ha, hr⟩
theorem TEnd.out {s₁ : Shared} {I C D : Addr} {oI oC oD : Obj} {news tl : Led} {R : Value → Led → Prop} {y : Value} {s₂ : Shared} {S : Led → Prop} (hS : ∀ tl, S (news ++ tl)) (off : Off3 I C D (news ++ tl)) (hab : Ab news tl)
    (h : TEnd h₀ L m s₁ [(I, oI), (C, oC), (D, oD)] news tl R y s₂) : CompEnd h₀ L m s₁ I oI C oC D oD S (fun y nw => ∃ tl', nw = news ++ tl' ∧ Ab news tl' ∧ R y tl') y s₂ := by
  obtain ⟨h', tk, all, add, e, F, N, hs, ha, hr⟩ := h
  refine ⟨h', tk, news ++ (tl ++ add), e, F, fun p hp => N p (hs p hp), ?_, hS _, tl ++ add, rfl, ?_, hr⟩
  · rw [← List.append_assoc]
    refine Off3.of fun p hp => ?_
    rcases List.mem_append.mp hp with hp | hp
    · exact off.mem p hp
    · exact ⟨Ne.symm (ha p hp _ (.head _)), Ne.symm (ha p hp _ (.tail _ (.head _))), Ne.symm (ha p hp _ (.tail _ (.tail _ (.head _))))⟩
  · exact hab.app (ha.sub fun p hp => List.mem_append_right _ (List.mem_append_left _ hp))

theorem restU {elt : Expr} {x : Str} {scope : Scope} {cl : List (Str × Addr)} {S : Led → Prop} {P : Nat → Value → Prop} {Fin : List Value → Led → Prop} {n : Nat} {news : Led} (Inv : Nat → List Value → Led → Prop)
    (hS : ∀ tl, S (news ++ tl)) (h0 : Inv 0 [] [])
    (step : ∀ i ys tl, i < n → Ab news tl → Inv i ys tl → ∀ v I oI C oC D m₂ h tk (E' : Value → Shared → Prop), P i v → NsObj oC m₂ → m₂ x = some v → Fr h₀ L h m → News h₀ L h ((I, oI) :: (C, oC) :: (D, lst ys) :: (news ++ tl)) → Off3 I C D (news ++ tl) → ((@Ne Nat I C) ∧ (@Ne Nat I D) ∧ (@Ne Nat C D)) →
      wpAny (model prog w) A (eval elt (compEnvC scope cl C env)) (TEnd h₀ L m { s with heap := h, toks := tk } [(I, oI), (C, oC), (D, lst ys)] news tl (fun y tl' => Inv (i + 1) (ys ++ [y]) tl')) E' { s with heap := h, toks := tk })
    (fin : ∀ ys tl, Ab news tl → Inv n ys tl → Fin ys (news ++ tl)) : CompRest prog w A h₀ L m env elt x scope cl s S P Fin n 0 [] news := by
  refine restU_ind (fun i ys nw => ∃ tl, nw = news ++ tl ∧ Ab news tl ∧ Inv i ys tl) ⟨[], (List.append_nil _).symm, Ab.nil, h0⟩ ?_ ?_
  · rintro i ys nw hi ⟨tl, rfl, hab, hv⟩ v I oI C oC D m₂ h' tk E' a1 a2 a3 a4 a5 a6 a7
    exact wpAny_mono (step i ys tl hi hab hv v I oI C oC D m₂ h' tk E' a1 a2 a3 a4 a5 a6 a7) (fun y s₂ hc => TEnd.out hS a6 hab hc) fun _ _ e => e
  · rintro ys nw ⟨tl, rfl, hab, hv⟩
    exact fin ys tl hab hv
theorem restT {ct elt : Expr} {x : Str} {scope : Scope} {cl : List (Str × Addr)} {S : Led → Prop} {P : Nat → Value → Prop} {Fin : List Value → Led → Prop} {n : Nat} {news : Led} (Inv : Nat → List Value → Led → Prop)
    (hS : ∀ tl, S (news ++ tl)) (h0 : Inv 0 [] [])
    (step : ∀ i ys tl, i < n → Ab news tl → Inv i ys tl → ∀ v I oI C oC D m₂ h tk (E' : Value → Shared → Prop), P i v → NsObj oC m₂ → m₂ x = some v → Fr h₀ L h m → News h₀ L h ((I, oI) :: (C, oC) :: (D, lst ys) :: (news ++ tl)) → Off3 I C D (news ++ tl) → ((@Ne Nat I C) ∧ (@Ne Nat I D) ∧ (@Ne Nat C D)) →
      wpAny (model prog w) A (isTrue ct (compEnvC scope cl C env) (eval ct (compEnvC scope cl C env))) (fun ok s' => if ok = true then
        wpAny (model prog w) A (eval elt (compEnvC scope cl C env)) (TEnd h₀ L m { s with heap := h, toks := tk } [(I, oI), (C, oC), (D, lst ys)] news tl (fun y tl' => Inv (i + 1) (ys ++ [y]) tl')) E' s'
        else TEnd h₀ L m { s with heap := h, toks := tk } [(I, oI), (C, oC), (D, lst ys)] news tl (fun _ tl' => Inv (i + 1) ys tl') Value.none s') E' { s with heap := h, toks := tk })
    (fin : ∀ ys tl, Ab news tl → Inv n ys tl → Fin ys (news ++ tl)) : CompRestT prog w A h₀ L m env ct elt x scope cl s S P Fin n 0 [] news := by
  refine restT_ind (fun i ys nw => ∃ tl, nw = news ++ tl ∧ Ab news tl ∧ Inv i ys tl) ⟨[], (List.append_nil _).symm, Ab.nil, h0⟩ ?_ ?_
  · rintro i ys nw hi ⟨tl, rfl, hab, hv⟩ v I oI C oC D m₂ h' tk E' a1 a2 a3 a4 a5 a6 a7
    refine wpAny_mono (step i ys tl hi hab hv v I oI C oC D m₂ h' tk E' a1 a2 a3 a4 a5 a6 a7) (fun ok s₂ hc => ?_) fun _ _ e => e
    cases ok with
    | true =>
      simp only [if_true] at hc ⊢
      exact wpAny_mono hc (fun y s₂ hc => TEnd.out hS a6 hab hc) fun _ _ e => e
    | false =>
      simp only [Bool.false_eq_true, if_false] at hc ⊢
      exact TEnd.out hS a6 hab hc
  · rintro ys nw ⟨tl, rfl, hab, hv⟩
    exact fin ys tl hab hv
theorem srcAt_led {ax : Addr} {xs : List Value} {n : Nat} {news : Led} (h : (ax, listOf xs.toArray n) ∈ news) (tl : Led) : SrcAt h₀ ax xs.toArray (news ++ tl) := .inr ⟨_, List.mem_append_left _ h, rfl, n, rfl⟩
end
end Mine
end

section
open PySem PySem.W PyProof.Rows PySem.Calls
set_option maxRecDepth 100000
namespace Mine
section
variable {prog : Program} {w : World} {A : Around} {E : Value → Shared → Prop} {s : Shared} {h₀ : Heap} {L D : Addr} {m : Str → Option Value} {news news' : Led}
theorem isL {h : Heap} {a : Addr} {xs : List Value} {n : Nat} (N : News h₀ L h news) (hm : (a, listOf xs.toArray n) ∈ news) : h.IsList a xs.toArray := ⟨_, (N _ hm).1, rfl, n, rfl⟩

theorem add_L {a b : Addr} {xs ys : List Value} {n k : Nat} {Q : Value → Shared → Prop} (F : Fr h₀ L s.heap m) (N : News h₀ L s.heap news) (ha : (a, listOf xs.toArray n) ∈ news) (hb : (b, listOf ys.toArray k) ∈ news) (hsz : xs.length + ys.length ≤ sizeLine)
    (h : ∀ c h', Fr h₀ L h' m → News h₀ L h' ((c, listOf (xs ++ ys).toArray 0) :: news) → (∀ p ∈ news, p.1 < c) → Q (.ref c) { s with heap := h' }) : wpAny (model prog w) A (binaryOp .Add (.ref a) (.ref b)) Q E s := by
  refine add_arrays (hsz := by simpa using hsz) F N (isL N ha) (isL N hb) fun h' F' N' => h _ h' F' ?_ fun p hp => Heap.lt_size (N p hp).1
  simpa using N'
theorem len_L {a : Addr} {xs : List Value} {n : Nat} {Q : Value → Shared → Prop} (N : News h₀ L s.heap news) (ha : (a, listOf xs.toArray n) ∈ news) (hsz : xs.length ≤ sizeLine)
    (h : Q (.int (xs.length : Int) (s.toks + 1)) { s with toks := s.toks + 1 + 1 }) : wpAny (model prog w) A (call (.builtin "len") [.ref a]) Q E s := by
  have e : xs.toArray.size = xs.length := by simp
  refine len_list (isL N ha) (by rw [e]; rw [sizeLine_eq] at hsz; (first | lia | omega)) (by rw [e]; exact h)

theorem pick_to (xs : List Value) {k : Int} (h : 0 ≤ k) : kms_pick xs none (some k) = xs.take k.toNat := by
  unfold kms_pick
  have e : kms_hi (some k) xs.length = min k.toNat xs.length := if_neg (by (first | lia | omega))
  rw [e, show kms_lo none xs.length = 0 from rfl, List.drop_zero, Nat.sub_zero, ← List.take_take, List.take_length]
theorem pick_from (xs : List Value) {k : Int} (h : 0 ≤ k) : kms_pick xs (some k) none = xs.drop k.toNat := by
  unfold kms_pick
  have e : kms_lo (some k) xs.length = min k.toNat xs.length := if_neg (by (first | lia | omega))
  rw [e, show kms_hi none xs.length = xs.length from rfl]
  by_cases hk : k.toNat ≤ xs.length
  · rw [Nat.min_eq_left hk, List.take_of_length_le (by simp)]
  · rw [Nat.min_eq_right (by (first | lia | omega)), List.drop_length, List.drop_of_length_le (by (first | lia | omega)), List.take_nil]
theorem sliceTo_L {value slice : PySem.Expr} {l : Addr} {xs : List Value} {n : Nat} {k : Int} {t : Tok} {Q : Value → Shared → Prop} (F : Fr h₀ L s.heap m) (N : News h₀ L s.heap news) (hl : (l, listOf xs.toArray n) ∈ news) (h0 : 0 ≤ k) (hsz : xs.length ≤ sizeLine)
    (h : ∀ D h', Fr h₀ L h' m → News h₀ L h' ((D, listOf (xs.take k.toNat).toArray 0) :: news) → (∀ p ∈ news, p.1 < D) → Q (.ref D) { s with heap := h' })
    (hs : subscripted slice false (.ref l) (.ref s.heap.objs.size) = operate [.ref s.heap.objs.size, .ref l] (getItem (.ref l) (.ref s.heap.objs.size))) (ht : ∀ r, letTemporaryGo value (.ref l) r = pure ()) :
    wpAny (model prog w) A (subscriptTail value slice (.ref l) (.ref s.heap.objs.size)) Q E { s with heap := s.heap.push { cls := .type "slice", data := .fields #[.none, .int k t, .none] } } :=
  kms_slice_lit F N (isL N hl) .none (.int k t) (pick_to xs h0) h hs ht (by simpa using hsz)
theorem sliceFrom_L {value slice : PySem.Expr} {l : Addr} {xs : List Value} {n : Nat} {k : Int} {t : Tok} {Q : Value → Shared → Prop} (F : Fr h₀ L s.heap m) (N : News h₀ L s.heap news) (hl : (l, listOf xs.toArray n) ∈ news) (h0 : 0 ≤ k) (hsz : xs.length ≤ sizeLine)
    (h : ∀ D h', Fr h₀ L h' m → News h₀ L h' ((D, listOf (xs.drop k.toNat).toArray 0) :: news) → (∀ p ∈ news, p.1 < D) → Q (.ref D) { s with heap := h' })
    (hs : subscripted slice false (.ref l) (.ref s.heap.objs.size) = operate [.ref s.heap.objs.size, .ref l] (getItem (.ref l) (.ref s.heap.objs.size))) (ht : ∀ r, letTemporaryGo value (.ref l) r = pure ()) :
    wpAny (model prog w) A (subscriptTail value slice (.ref l) (.ref s.heap.objs.size)) Q E { s with heap := s.heap.push { cls := .type "slice", data := .fields #[.int k t, .none, .none] } } :=
  kms_slice_lit F N (isL N hl) (.int k t) .none (pick_from xs h0) h hs ht (by simpa using hsz)
theorem sliceRev_L {value slice : PySem.Expr} {l : Addr} {xs : List Value} {n : Nat} {t : Tok} {ops : List Value} {Q : Value → Shared → Prop} (F : Fr h₀ L s.heap m) (N : News h₀ L s.heap news) (hl : (l, listOf xs.toArray n) ∈ news) (hsz : xs.length ≤ sizeLine)
    (h : ∀ D h', Fr h₀ L h' m → News h₀ L h' ((D, listOf xs.reverse.toArray 0) :: news) → (∀ p ∈ news, p.1 < D) → Q (.ref D) { s with heap := h' })
    (hs : subscripted slice false (.ref l) (.ref s.heap.objs.size) = operate ops (getItem (.ref l) (.ref s.heap.objs.size))) (ht : ∀ r, letTemporaryGo value (.ref l) r = pure ()) :
    wpAny (model prog w) A (subscriptTail value slice (.ref l) (.ref s.heap.objs.size)) Q E { s with heap := s.heap.push { cls := .type "slice", data := .fields #[.none, .none, .int (-1) t] } } :=
  krv_lit F N (isL N hl) (.int (-1) t) rfl h hs ht (by simpa using hsz)
theorem copy_L {l : Addr} {xs : List Value} {n : Nat} {Q : Value → Shared → Prop} (F : Fr h₀ L s.heap m) (N : News h₀ L s.heap news) (hl : (l, listOf xs.toArray n) ∈ news) (hsz : xs.length ≤ sizeLine)
    (h : ∀ D c h', Fr h₀ L h' m → News h₀ L h' ((D, listOf xs.toArray c) :: news) → (∀ q ∈ news, q.1 < D) → Q (.ref D) { s with heap := h' }) : wpAny (model prog w) A (call (.type "list") [.ref l]) Q E s :=
  list_copyK F N (isL N hl) h (by simpa using hsz)
theorem item_L {value slice : PySem.Expr} {l : Addr} {xs : List Value} {n : Nat} {k : Int} {u : Tok} {v : Value} {Q : Value → Shared → Prop} (N : News h₀ L s.heap news) (hl : (l, listOf xs.toArray n) ∈ news)
    (h0 : 0 ≤ k) (hhi : k < 2 ^ 63) (hx : xs[k.toNat]? = some v) (h : Q v s)
    (hs : subscripted slice false (.ref l) (.int k u) = operate [.ref l, .int k u] (getItem (.ref l) (.int k u)) := by with_unfolding_all rfl) :
    wpAny (model prog w) A (subscriptTail value slice (.ref l) (.int k u)) Q E s :=
  tail_any (isL N hl).typeIs slot_list_getitem.lookup (wpAny_getItem_list (isL N hl) h0 hhi (by simpa using hx) h) hs
theorem notin_T {t : Addr} {items : List Value} {ys : List Str} {x : Str} {u : Tok} {b : Bool} {Q : Value → Shared → Prop} (ht : IsTup s.heap t items.toArray) (hi : StrsAre items ys) (hb : (!(ys.any (· == x))) = b)
    (h : Q (.bool b) s) : wpAny (model prog w) A (compareOp .NotIn (.str x u) (.ref t)) Q E s := notin_tuple_strs ht (by simpa using hi) (by rw [hb]; exact h)
end
end Mine
end

section
open PySem PySem.W PyProof.Rows PySem.Calls
set_option maxRecDepth 100000
namespace Mine
set_option genSizeOf false in
set_option genInjectivity false in
/-- a Space's name dict: the tokens of its 17 keys, and the values -/
structure SpT where
  (t0 t1 t2 t3 t4 t5 t6 t7 t8 t9 t10 t11 t12 t13 t14 t15 t16 : Tok)
noncomputable abbrev ent (w : World) (k : String) (t : Tok) (v : Value) : DictEntry := { hash := PyData.keyHash w.params (Str.ofString k), key := .str (Str.ofString k) t, val := v }
noncomputable abbrev spE (w : World) (T : SpT) (v0 v1 v2 v3 v4 v5 v6 v7 v8 v9 v10 v11 v12 v13 v14 v15 v16 : Value) : List DictEntry := [
  ent w "name" T.t0 v0,
  ent w "next_number" T.t1 v1,
  ent w "sent" T.t2 v2,
  ent w "largest_acked" T.t3 v3,
  ent w "acked" T.t4 v4,
  ent w "last_eliciting_time" T.t5 v5,
  ent w "loss_time" T.t6 v6,
  ent w "received" T.t7 v7,
  ent w "largest_seen" T.t8 v8,
  ent w "largest_time" T.t9 v9,
  ent w "floor" T.t10 v10,
  ent w "first_unacked" T.t11 v11,
  ent w "unacked" T.t12 v12,
  ent w "wants_now" T.t13 v13,
  ent w "has_new" T.t14 v14,
  ent w "ecn" T.t15 v15,
  ent w "is_gone" T.t16 v16]

set_option genSizeOf false in
set_option genInjectivity false in
/-- a Space that sends: d its name dict, sd its dict of what is out -/
structure SndC where
  T : SpT
  (v0 v5 v6 v7 v8 v9 v10 v11 v12 v13 v14 v15 v16 la : Value)
  n : Int
  nt : Tok
  ac : Addr
  o : Obj
noncomputable abbrev sndL (w : World) (d sd : Addr) (c : SndC) : Led := [(d, dictOf (spE w c.T c.v0 (.int c.n c.nt) (.ref sd) c.la (.ref c.ac) c.v5 c.v6 c.v7 c.v8 c.v9 c.v10 c.v11 c.v12 c.v13 c.v14 c.v15 c.v16) 17), (sd, c.o)]
inductive OptI : Value → Option Int → Prop
  | none : OptI .none none
  | int {k : Int} {t : Tok} : OptI (.int k t) (some k)
set_option genSizeOf false in
set_option genInjectivity false in
structure SndA where
  n : Int
  sent : List Int
  la : Option Int
  ack : List P2
structure SndOK (w : World) (I : Led) (sd : Addr) (c : SndC) (a : SndA) : Prop where
  n : c.n = a.n
  la : OptI c.la a.la
  ack : RngIn I c.ac a.ack
  sent : ∃ kvs, c.o.IsDictOf (intKind PR w) kvs ∧ kvs.map (·.1) = a.sent
  lo : (sd == sysModules) = false
theorem SndOK.mono {w I J sd c a} (h : SndOK w I sd c a) (hs : ∀ p ∈ I, p ∈ J) : SndOK w J sd c a := { h with ack := h.ack.mono hs }
noncomputable def omax : Option Int → Int → Int
  | none, k => k
  | some j, k => if j < k then k else j
theorem omax_yes {k n : Int} (h : k < n) : n = omax (some k) n := (if_pos h).symm
theorem omax_no {k n : Int} (h : ¬ k < n) : k = omax (some k) n := (if_neg h).symm
noncomputable def IsLeast (n : Int) (sent : List Int) (k : Int) : Prop := (sent = [] ∧ k = n) ∨ (k ∈ sent ∧ ∀ a ∈ sent, k ≤ a)
noncomputable abbrev IsLeast.val {n : Int} {sent : List Int} {k : Int} (_ : IsLeast n sent k) : Int := k
noncomputable def noteF (least : Int) (ac : List P2) (p : P2) : List P2 := if least ≤ p.2 then addRange ac p.1 p.2 else ac
noncomputable def arW (s : ArS) : Nat := s.f.length + cond s.b 0 1
theorem arStep_len (s : ArS) (o : P2) : arW (arStep s o) ≤ arW s + 1 := by
  obtain ⟨f, b, lo, hi⟩ := s
  unfold arStep arW
  split
  · simp; (first | lia | omega)
  · split
    · cases b <;> simp
    · simp
theorem foldl_ar_len (ps : List P2) : ∀ s : ArS, arW (ps.foldl arStep s) ≤ arW s + ps.length := by
  induction ps with
  | nil => intro s; simp
  | cons p ps ih =>
    intro s
    have h1 := ih (arStep s p)
    have h2 := arStep_len s p
    rw [List.foldl_cons, List.length_cons]
    (first | lia | omega)
theorem addRange_len (ps : List P2) (lo hi : Int) : (addRange ps lo hi).length ≤ ps.length + 1 := by
  have h := foldl_ar_len ps ⟨[], false, lo, hi⟩
  have h0 : arW ⟨[], false, lo, hi⟩ = 1 := rfl
  rw [h0] at h
  unfold addRange
  dsimp only
  generalize ps.foldl arStep ⟨[], false, lo, hi⟩ = s at *
  obtain ⟨f, b, lo', hi'⟩ := s
  unfold arW at h
  cases b <;> simp at h ⊢ <;> (first | lia | omega)
theorem noteF_len (least : Int) (ac : List P2) (p : P2) : (noteF least ac p).length ≤ ac.length + 1 := by
  unfold noteF
  split
  · exact addRange_len _ _ _
  · (first | lia | omega)
theorem noteF_yes {least : Int} {ac : List P2} {x y : Int} (h : least ≤ y) : noteF least ac (x, y) = addRange ac x y := if_pos h
theorem noteF_no {least : Int} {ac : List P2} {x y : Int} (h : ¬ least ≤ y) : noteF least ac (x, y) = ac := if_neg h
/-- a SentPacket's name dict -/
noncomputable abbrev pkE (w : World) (t0 t1 t2 t3 t4 t5 : Tok) (v0 v1 v2 v3 v5 : Value) : List DictEntry := [ent w "number" t0 v0, ent w "time" t1 v1, ent w "size" t2 v2, ent w "frames" t3 v3, ent w "is_eliciting" t4 (.bool true), ent w "in_flight" t5 v5]
inductive PkAt (w : World) (p : Addr) : Led → Prop
  | mk {dp : Addr} {t0 t1 t2 t3 t4 t5 : Tok} {v0 v1 v2 v3 v5 : Value} : PkAt w p [(p, instObj 100 dp), (dp, dictOf (pkE w t0 t1 t2 t3 t4 t5 v0 v1 v2 v3 v5) 6)]
end Mine
end

section
open PySem PySem.W PyProof.Rows PySem.Calls
set_option maxRecDepth 100000
namespace Mine
/-- a Space just made -/
inductive SpNew (w : World) (I : Led) : Value → Led → Prop
  | mk {x d sd ac rc ec : Addr} {T : SpT} {ts t1 t2 t3 u1 u2 u3 : Tok} {o : Obj} {tl : Led} : o.IsDictOf (intKind PR w) [] → (sd == sysModules) = false → Ab I tl →
      tl = [(d, dictOf (spE w T (.str (Str.ofString "application") ts) (.int 0 t1) (.ref sd) .none (.ref ac) .none .none (.ref rc) .none .none (.int 0 t2) .none (.int 0 t3) (.bool false) (.bool false) (.ref ec) (.bool false)) 17), (x, instObj 245 d), (sd, o), (ac, listOf [].toArray 0), (rc, listOf [].toArray 0), (ec, listOf [.int 0 u1, .int 0 u2, .int 0 u3].toArray 0)] →
      @LT.lt Nat _ d x → @LT.lt Nat _ x sd → @LT.lt Nat _ sd ac → @LT.lt Nat _ ac rc → @LT.lt Nat _ rc ec → SpNew w I (.ref x) (I ++ tl)
set_option genSizeOf false in
set_option genInjectivity false in
/-- a Space that receives: d its name dict, ec its list of counts -/
structure RcvC where
  T : SpT
  (v1 v2 v3 v4 v5 v6 v13 v14 v16 : Value)
  ts : Tok
  rl : Addr
  (ls lt fu : Value)
  fl : Tok
  k : Int
  kt : Tok
  (e1 e2 e3 : Int)
  (t1 t2 t3 : Tok)
  en : Nat
noncomputable abbrev rcvL (w : World) (d ec : Addr) (c : RcvC) : Led := [(d, dictOf (spE w c.T (.str (Str.ofString "application") c.ts) c.v1 c.v2 c.v3 c.v4 c.v5 c.v6 (.ref c.rl) c.ls c.lt (.int 0 c.fl) c.fu (.int c.k c.kt) c.v13 c.v14 (.ref ec) c.v16) 17), (ec, listOf [.int c.e1 c.t1, .int c.e2 c.t2, .int c.e3 c.t3].toArray c.en)]
inductive RcvSt : Value → Value → Value → Int → Option Int → Prop
  | fresh : RcvSt .none .none .none 0 none
  | on {x y z k : Int} {t u v : Tok} : 1 ≤ k → RcvSt (.int x t) (.int y u) (.int z v) k (some x)
set_option genSizeOf false in
set_option genInjectivity false in
structure RcvA where
  rcv : List P2
  ls : Option Int
  (e1 e2 e3 : Int)
structure RcvOK (w : World) (I : Led) (c : RcvC) (a : RcvA) : Prop where
  rcv : RngIn I c.rl a.rcv
  st : RcvSt c.ls c.lt c.fu c.k a.ls
  e1 : c.e1 = a.e1
  e2 : c.e2 = a.e2
  e3 : c.e3 = a.e3
theorem RcvOK.mono {w I J c a} (h : RcvOK w I c a) (hs : ∀ p ∈ I, p ∈ J) : RcvOK w J c a := { h with rcv := h.rcv.mono hs }
theorem Con.mono {w : World} {mean : ExcName → Option Value} {mg mb : Str → Option Value} {f : Addr} {dd uu : Nat} {news : Led} {vs : List Value} {Post Post' : Value → Led → Prop} (c : Con w mean mg mb f dd uu news vs Post)
    (k : ∀ r N, Post r N → ∃ N', (∀ p ∈ N', p ∈ N) ∧ Post' r N') : Con w mean mg mb f dd uu news vs Post' := by
  intro dp un gd cn cs a ccd cl outer A₀ base h₀ L m sh sg sk st so Q E B F X N T hk hd hu hret
  refine c.use B F X N T hk hd hu fun r N' h' tk' F' N2 hp => ?_
  obtain ⟨N3, hs, hp'⟩ := k r N' hp
  exact hret r N3 h' tk' F' (fun p h => N2 p (hs p h)) hp'
theorem perm_snd {α : Type} {a b c d e f : α} {I : List α} : ∀ p ∈ [a, c] ++ (I ++ [b, d, e, f]), p ∈ I ++ [a, b, c, d, e, f] := fun p hp => by
  simp only [List.mem_append, List.mem_cons, List.not_mem_nil, or_false] at hp ⊢
  rcases hp with (h | h) | h | h | h | h | h <;> simp [h]
theorem perm_rcv {α : Type} {a b c d e f : α} {I : List α} : ∀ p ∈ [a, f] ++ (I ++ [b, c, d, e]), p ∈ I ++ [a, b, c, d, e, f] := fun p hp => by
  simp only [List.mem_append, List.mem_cons, List.not_mem_nil, or_false] at hp ⊢
  rcases hp with (h | h) | h | h | h | h | h <;> simp [h]
theorem perm_snd0 {α : Type} {a b c d e f : α} : ∀ p ∈ [a, c] ++ [b, d, e, f], p ∈ [a, b, c, d, e, f] := perm_snd (I := [])
theorem perm_rcv0 {α : Type} {a b c d e f : α} : ∀ p ∈ [a, f] ++ [b, c, d, e], p ∈ [a, b, c, d, e, f] := perm_rcv (I := [])
theorem off42 {x a r e d s : Addr} {o1 o2 o3 o4 : Obj} (h1 : @Ne Nat x d) (h2 : @Ne Nat a d) (h3 : @Ne Nat r d) (h4 : @Ne Nat e d) (k1 : @Ne Nat x s) (k2 : @Ne Nat a s) (k3 : @Ne Nat r s) (k4 : @Ne Nat e s) :
    OwnOff [(x, o1), (a, o2), (r, o3), (e, o4)] [d, s] :=
  off_of (List.forall_mem_cons.mpr ⟨List.forall_mem_cons.mpr ⟨h1, List.forall_mem_cons.mpr ⟨h2, List.forall_mem_cons.mpr ⟨h3, List.forall_mem_cons.mpr ⟨h4, List.forall_mem_nil _⟩⟩⟩⟩,
    List.forall_mem_cons.mpr ⟨List.forall_mem_cons.mpr ⟨k1, List.forall_mem_cons.mpr ⟨k2, List.forall_mem_cons.mpr ⟨k3, List.forall_mem_cons.mpr ⟨k4, List.forall_mem_nil _⟩⟩⟩⟩, List.forall_mem_nil _⟩⟩)
theorem ab_off2' {I tl : Led} {d s : Addr} {o o' : Obj} (h : Ab I tl) (m1 : (d, o) ∈ tl) (m2 : (s, o') ∈ tl) : OwnOff I [d, s] := fun p hp b hb => by
  rcases List.mem_cons.mp hb with rfl | hb
  · exact h _ m1 p hp
  · rw [List.mem_singleton.mp hb]; exact h _ m2 p hp
theorem Con.snd {w : World} {mean : ExcName → Option Value} {mg mb : Str → Option Value} {f : Addr} {dd uu : Nat} {I : Led} {vs : List Value} (h : Con w mean mg mb f dd uu I vs (SpNew w I)) :
    Con w mean mg mb f dd uu I vs (fun r N => ∃ x d sd c tl, r = .ref x ∧ N = sndL w d sd c ++ (I ++ tl) ∧ Ab I (sndL w d sd c ++ tl) ∧ (x, instObj 245 d) ∈ tl ∧ OwnOff (I ++ tl) [d, sd] ∧ (@Ne Nat d sd) ∧ SndOK w tl sd c ⟨0, [], none, []⟩) := by
  refine h.mono ?_
  rintro r N ⟨ho, lo, hab, rfl, l1, l2, l3, l4, l5⟩
  rename_i x d sd ac rc ec T ts t1 t2 t3 u1 u2 u3 o
  refine ⟨sndL w d sd ⟨T, .str (Str.ofString "application") ts, .none, .none, .ref rc, .none, .none, .int 0 t2, .none, .int 0 t3, .bool false, .bool false, .ref ec, .bool false, .none, 0, t1, ac, o⟩ ++ (I ++ [(x, instObj 245 d), (ac, listOf [].toArray 0), (rc, listOf [].toArray 0), (ec, listOf [.int 0 u1, .int 0 u2, .int 0 u3].toArray 0)]), ?_, x, d, sd, _, _, rfl, rfl, ?_, .head _, ?_, ?_, ⟨rfl, .none, ⟨[], 0, by simp, .nil⟩, ⟨[], ho, rfl⟩, lo⟩⟩
  · exact perm_snd
  · exact fun q hq => hab q (perm_snd0 q hq)
  · have l3' := Nat.lt_trans l2 l3
    have l4' := Nat.lt_trans l3 l4
    have l5' := Nat.lt_trans l4' l5
    exact OwnOff.app (ab_off2' hab (.head _) (.tail _ (.tail _ (.head _)))) (off42 (Nat.ne_of_gt l1) (Nat.ne_of_gt (Nat.lt_trans l1 l3')) (Nat.ne_of_gt (Nat.lt_trans l1 (Nat.lt_trans l2 l4'))) (Nat.ne_of_gt (Nat.lt_trans l1 (Nat.lt_trans l2 l5'))) (Nat.ne_of_lt l2) (Nat.ne_of_gt l3) (Nat.ne_of_gt l4') (Nat.ne_of_gt l5'))
  · exact Nat.ne_of_lt (Nat.lt_trans l1 l2)
theorem range_sz (a b : Int) : Builtin.Range.rangeSize a b 1 = ((b - a).toNat : Int) := by
  unfold Builtin.Range.rangeSize
  rw [if_pos (by decide)]
  split <;> (first | lia | omega)
theorem range_sm {a b : Int} (ha : -1000 ≤ a) (ha2 : a ≤ 1000) (hb : -1000 ≤ b) (hb2 : b ≤ 1000) : Builtin.Range.small a b 1 = true := by
  unfold Builtin.Range.small
  rw [range_sz]
  unfold Builtin.Range.rangeFitsLong
  simp only [Bool.and_eq_true, Bool.or_eq_true, decide_eq_true_eq, beq_iff_eq, if_pos (show (1 : Int) > 0 by decide)]
  (first | lia | omega)
noncomputable abbrev rng (n : Nat) : List Int := (List.range n).map Int.ofNat
theorem rng_len (n : Nat) : (rng n).length = n := by simp
theorem rng_mem {n : Nat} {x : Int} : x ∈ rng n ↔ 0 ≤ x ∧ x < n := by
  simp only [rng, List.mem_map, List.mem_range]
  constructor
  · rintro ⟨a, h, rfl⟩; exact ⟨Int.natCast_nonneg a, by simpa using h⟩
  · rintro ⟨h1, h2⟩; exact ⟨x.toNat, by (first | lia | omega), by show ((x.toNat : Nat) : Int) = x; (first | lia | omega)⟩
theorem rng_succ (n : Nat) : rng (n + 1) = rng n ++ [(n : Int)] := by
  simp [rng, List.range_succ]
theorem Ab.app_o {o o' a : Led} (h : Ab (o ++ o') a) : Ab o a := fun q hq p hp => h q hq p (List.mem_append_left _ hp)
theorem Ab.app_l {o a b : Led} (h : Ab o (a ++ b)) : Ab o a := fun q hq => h q (List.mem_append_left _ hq)
theorem Ab.app_r {o a b : Led} (h : Ab o (a ++ b)) : Ab o b := fun q hq => h q (List.mem_append_right _ hq)
/-- the same places, other objects -/
theorem Ab.same {o a b : Led} (h : Ab o a) (e : b.map (·.1) = a.map (·.1)) : Ab o b := fun q hq p hp => by
  have : q.1 ∈ a.map (·.1) := by rw [← e]; exact List.mem_map.mpr ⟨q, hq, rfl⟩
  obtain ⟨q', hq', e'⟩ := List.mem_map.mp this
  rw [← e']; exact h q' hq' p hp
theorem Ab.same_o {o o' a : Led} (h : Ab o a) (e : o'.map (·.1) = o.map (·.1)) : Ab o' a := fun q hq p hp => by
  have : p.1 ∈ o.map (·.1) := by rw [← e]; exact List.mem_map.mpr ⟨p, hp, rfl⟩
  obtain ⟨p', hp', e'⟩ := List.mem_map.mp this
  rw [← e']; exact h q hq p' hp'
theorem sndL_ab {w d sd c c'} {o a : Led} (h : Ab o (sndL w d sd c ++ a)) : Ab o (sndL w d sd c') := h.app_l.same rfl
theorem sndL_ab2 {w d sd c c'} {o a : Led} (h : Ab (sndL w d sd c ++ o) a) : Ab (sndL w d sd c' ++ o) a := h.same_o rfl
/-- what a sender makes of a word -/
noncomputable def Hear (ps : List P2) (a a' : SndA) : Prop := (ps = [] ∧ a' = a) ∨ ∃ p qs least, ps = p :: qs ∧ IsLeast a.n a'.sent least ∧ a' = ⟨a.n, a.sent.filter (fun x => !hasNum ps x), some (omax a.la p.2), pruneR (ps.foldl (noteF least) a.ack) least⟩
theorem filter_notin {ms sent : List Int} {f : Int → Bool} (h : ms.Perm (sent.filter f)) : (sent.filter fun x => decide (x ∉ ms)) = sent.filter fun x => !f x := by
  apply List.filter_congr
  intro x hx
  cases hf : f x with
  | true => simp [h.mem_iff, hx, hf]
  | false => simp [h.mem_iff, hx, hf]
theorem snd_off {w d sd c} {o a : Led} (h : Ab (sndL w d sd c ++ o) a) : OwnOff a [d, sd] := OwnOff.of_ab (h.app_o)
end Mine
end

section
open PySem PySem.W PyProof.Rows PySem.Calls
set_option maxRecDepth 100000
namespace Mine
section
variable {prog : Program} {w : World} {A : Around} {E : Value → Shared → Prop} {s : Shared} {h₀ : Heap} {L d : Addr} {m : Str → Option Value} {news news' : Led} {o : Obj} {kvs : List (Int × Value)}
noncomputable abbrev keysOf (kvs : List (Int × Value)) : List Int := kvs.map (·.1)
theorem intsAre_keys {kvs : List (Int × Value)} {vs : List Value} (hl : vs.length = kvs.length) (hv : ∀ (j : Nat) (v : Value), vs[j]? = some v → ∃ k x, kvs[j]? = some (k, x) ∧ (PySem.intKind prog w).is k v = true) : IntsAre vs (keysOf kvs) := by
  induction kvs generalizing vs with
  | nil => rw [List.length_eq_zero_iff.mp hl]; exact .nil
  | cons kv kvs ih =>
    cases vs with
    | nil => simp at hl
    | cons v vs =>
      obtain ⟨k, x, e, hk⟩ := hv 0 v rfl
      have e' : kv = (k, x) := by simpa using e
      subst e'
      obtain ⟨t, rfl⟩ := Value.isInt_shape hk
      refine IntsAre.cons _ _ (ih (by simpa using hl) fun j u hu => ?_)
      exact hv (j + 1) u (by simpa using hu)
theorem listD {Q : Value → Shared → Prop} (hh : A.handled = none) (F : Fr h₀ L s.heap m) (N : News h₀ L s.heap news) (hp : (d, o) ∈ news) (hd : o.IsDictOf (PySem.intKind prog w) kvs) (lo : (d == sysModules) = false) (hn : kvs.length ≤ 1000)
    (h : ∀ (D : Addr) c h' tk (vs : List Value), Fr h₀ L h' m → News h₀ L h' ((D, listOf vs.toArray c) :: news) → (∀ q ∈ news, q.1 < D) → IntsAre vs (keysOf kvs) → Q (.ref D) { s with heap := h', toks := tk }) :
    wpAny (model prog w) A (call (.type "list") [.ref d]) Q E s := by
  obtain ⟨ep, hat⟩ := (kda_dict N hp hd).dictAt
  refine kdl_N (kdl_dict (knd := PySem.intKind prog w) (kvs := kvs) (ep := ep) lo) hh F N hat (kdl_size (by omega)) fun B c h' tk vs F' N' l1 hl hv => ?_
  exact h B c h' tk vs F' N' l1 (intsAre_keys hl hv)
theorem sortedD {Q : Value → Shared → Prop} (hh : A.handled = none) (F : Fr h₀ L s.heap m) (N : News h₀ L s.heap news) (hp : (d, o) ∈ news) (hd : o.IsDictOf (PySem.intKind prog w) kvs) (lo : (d == sysModules) = false) (hn : kvs.length < 64)
    (h : ∀ (D : Addr) c h' tk (vs : List Value) ns, Fr h₀ L h' m → News h₀ L h' ((D, listOf vs.toArray c) :: news) → (∀ q ∈ news, q.1 < D) → IntsAre vs ns → ns.Perm (keysOf kvs) → ns.Pairwise (· ≤ ·) → Q (.ref D) { s with heap := h', toks := tk }) :
    wpAny (model prog w) A (call (.builtin "sorted") [.ref d]) Q E s := by
  obtain ⟨ep, hat⟩ := (kda_dict N hp hd).dictAt
  refine kdu_sorted (kdl_dict (knd := PySem.intKind prog w) (kvs := kvs) (ep := ep) lo) hh F N hat (kdl_size (by omega)) fun B h' tk vs F' N' l1 hl hv => ?_
  refine ksk_lsort (s := { s with heap := h', toks := tk }) F' N' (fun o' => Upd.head fun p hp => Nat.ne_of_lt (l1 p hp)) (List.toList_toArray) (intsAre_keys hl hv) (by simpa using hn) ?_
  intro vs' ns' c h'' F'' N'' hI _ hp' hpw _
  exact h B c h'' tk vs' ns' F'' N'' l1 hI hp' hpw
theorem sortedL {l : Addr} {vs : List Value} {n : Nat} {ns : List Int} {Q : Value → Shared → Prop} (F : Fr h₀ L s.heap m) (N : News h₀ L s.heap news) (hl : (l, listOf vs.toArray n) ∈ news) (hi : IntsAre vs ns) (h64 : ns.length < 64)
    (h : ∀ (D : Addr) c h' (vs : List Value) ns', Fr h₀ L h' m → News h₀ L h' ((D, listOf vs.toArray c) :: news) → (∀ q ∈ news, q.1 < D) → IntsAre vs ns' → ns'.Perm ns → ns'.Pairwise (· ≤ ·) → Q (.ref D) { s with heap := h' }) :
    wpAny (model prog w) A (call (.builtin "sorted") [.ref l]) Q E s :=
  kso_sorted F N (isL N hl) hi h64 fun D vs' ns' c h' F' N' lA hI _ hp hw _ => h D c h' vs' ns' F' N' lA hI hp hw
theorem minD {Q : Value → Shared → Prop} (hh : A.handled = none) (F : Fr h₀ L s.heap m) (N : News h₀ L s.heap news) (hp : (d, o) ∈ news) (hd : o.IsDictOf (PySem.intKind prog w) kvs) (lo : (d == sysModules) = false) (hne : 0 < kvs.length)
    (h : ∀ h' M (t : Tok) tk, Fr h₀ L h' m → News h₀ L h' news → M ∈ keysOf kvs → (∀ a ∈ keysOf kvs, M ≤ a) → Q (.int M t) { s with heap := h', toks := tk }) :
    wpAny (model prog w) A (call (.builtin "min") [.ref d]) Q E s := by
  obtain ⟨ep, hat⟩ := (kda_dict N hp hd).dictAt
  have K := kdl_dict (prog := prog) (w := w) (knd := PySem.intKind prog w) (kvs := kvs) (ep := ep) lo
  refine call_min_walk ?_
  obtain ⟨oI, St, hit, W, st⟩ := K.iter A.in1 s hh hat
  have hval : ∀ i v, (∃ k x, kvs[i]? = some (k, x) ∧ (PySem.intKind prog w).is k v = true) → ∃ t, v = .int ((keysOf kvs).getD i 0) t := by
    rintro i v ⟨k, x, e, hk⟩
    obtain ⟨t, rfl⟩ := Value.isInt_shape hk
    exact ⟨t, by simp [keysOf, e]⟩
  refine hit _ _ ⟨s.heap.objs.size, _, _, _, _, _, _, rfl, W, st, fun b hb => ?_, hne, CmpOf.ints_lt (fun i => (keysOf kvs).getD i 0) hval, fun v h' tk hP hk => ?_⟩
  · show b < (s.heap.push oI).objs.size
    rw [size_push']
    rcases List.mem_cons.mp hb with e | hb
    · rw [e]; exact Nat.lt_succ_self _
    · rw [List.mem_singleton.mp hb]; exact Nat.lt_succ_of_lt (K.there _ hat).2
  · obtain ⟨t, rfl⟩ := hval _ _ hP
    have hk' : ∀ b o, s.heap.get? b = some o → h'.get? b = some o := fun b o e => by
      refine hk b o (fun hI => ?_) (Heap.get?_push_of_some _ e)
      exact absurd (Heap.lt_size e) (by rw [List.mem_singleton.mp hI]; exact Nat.lt_irrefl _)
    obtain ⟨h1, h2⟩ := argBest_lt (fun i => (keysOf kvs).getD i 0) (kvs.length - 1)
    refine h h' _ t tk (F.keeps hk') (N.grown hk') ?_ fun a ha => ?_
    · exact getD_mem (by have : (keysOf kvs).length = kvs.length := List.length_map _; omega)
    · obtain ⟨j, hj, rfl⟩ := mem_getD ha
      rw [keysOf, List.length_map] at hj
      exact h2 j (by omega)
theorem valueAt_some {kvs : List (Int × Value)} {k : Int} : (valueAt kvs k).isSome = decide (k ∈ keysOf kvs) := by
  unfold valueAt
  rw [Option.isSome_map, Bool.eq_iff_iff, List.find?_isSome, decide_eq_true_iff]
  constructor
  · rintro ⟨p, hp, e⟩; exact List.mem_map.mpr ⟨p, hp, by simpa using e⟩
  · intro h
    obtain ⟨p, hp, e⟩ := List.mem_map.mp h
    exact ⟨p, hp, by simpa using e⟩
theorem keysOf_without {kvs : List (Int × Value)} {k : Int} : keysOf (without kvs k) = (keysOf kvs).filter fun x => decide (x ≠ k) := by
  unfold without keysOf
  rw [List.filter_map]; rfl
theorem keysOf_stored_new {kvs : List (Int × Value)} {k : Int} {v : Value} (h : k ∉ keysOf kvs) : keysOf (stored kvs k v) = keysOf kvs ++ [k] := by
  unfold stored
  rw [if_neg]
  · simp [keysOf]
  · intro hh
    obtain ⟨p, hp, e⟩ := List.any_eq_true.mp hh
    exact h (List.mem_map.mpr ⟨p, hp, by simpa using e⟩)
theorem valueAt_ex {kvs : List (Int × Value)} {k : Int} (h : k ∈ keysOf kvs) : ∃ v, valueAt kvs k = some v := Option.isSome_iff_exists.mp (by rw [valueAt_some]; exact decide_eq_true h)
theorem notin_succ {xs ns : List Int} {i : Nat} {y : Int} (h : ns[i]? = some y) : (xs.filter fun x => decide (x ∉ ns.take i)).filter (fun x => decide (x ≠ y)) = xs.filter fun x => decide (x ∉ ns.take (i + 1)) := by
  rw [List.filter_filter]
  apply List.filter_congr
  intro x _
  rw [List.take_add_one, h]
  simp only [Option.toList_some, List.mem_append, List.mem_singleton, not_or]
  by_cases h1 : x = y <;> by_cases h2 : x ∈ List.take i ns <;> simp [h1, h2]
theorem notin_succ_no {xs ns : List Int} {i : Nat} {y : Int} (h : ns[i]? = some y) (hn : y ∉ xs.filter fun x => decide (x ∉ ns.take i)) : (xs.filter fun x => decide (x ∉ ns.take i)) = xs.filter fun x => decide (x ∉ ns.take (i + 1)) := by
  rw [← notin_succ h]
  refine (List.filter_eq_self.mpr fun x hx => ?_).symm
  simp only [decide_eq_true_eq]
  rintro rfl
  exact hn hx
theorem notin_perm {xs ns ms : List Int} (h : ms.Perm ns) : (xs.filter fun x => decide (x ∉ ms)) = xs.filter fun x => decide (x ∉ ns) := by
  apply List.filter_congr
  intro x _
  simp only [h.mem_iff]
theorem inD {Q : Value → Shared → Prop} {k : Int} {t : Tok} {b : Bool} (N : News h₀ L s.heap news) (hp : (d, o) ∈ news) (hd : o.IsDictOf (PySem.intKind prog w) kvs) (lo : (d == sysModules) = false) (hb : decide (k ∈ keysOf kvs) = b) (h : Q (.bool b) { s with toks := s.toks + 1 }) :
    wpAny (model prog w) A (compareOp .In (.int k t) (.ref d)) Q E s := kda_in N hp hd lo (intKind_is _ _ _ _) b (by rw [valueAt_some]; exact hb) h
theorem lenD {Q : Value → Shared → Prop} (N : News h₀ L s.heap news) (hp : (d, o) ∈ news) (hd : o.IsDictOf (PySem.intKind prog w) kvs) (lo : (d == sysModules) = false) (hn : kvs.length ≤ 1000) (h : Q (.int (keysOf kvs).length (s.toks + 1)) { s with toks := s.toks + 1 + 1 }) :
    wpAny (model prog w) A (call (.builtin "len") [.ref d]) Q E s := kda_len N hp hd lo (by omega) (by rw [keysOf, List.length_map] at h; exact h)
theorem setD {Q : Unit → Shared → Prop} {k : Int} {t : Tok} {v : Value} {g : Obj → Led} (F : Fr h₀ L s.heap m) (N : News h₀ L s.heap news) (U : UpdF d o news g) (hd : o.IsDictOf (PySem.intKind prog w) kvs) (hn : kvs.length ≤ 1000)
    (h : ∀ h' o', Fr h₀ L h' m → News h₀ L h' (g o') → o'.IsDictOf (PySem.intKind prog w) (stored kvs k v) → Q () { s with heap := h', toks := s.toks + 1 }) : wpAny (model prog w) A (setItem (.ref d) (.int k t) v) Q E s :=
  kda_set F N U hd (intKind_is _ _ _ _) (by rw [sizeLine_eq]; omega) h
theorem popD {Q : Value → Shared → Prop} {k : Int} {t : Tok} {g : Obj → Led} (F : Fr h₀ L s.heap m) (N : News h₀ L s.heap news) (U : UpdF d o news g) (hd : o.IsDictOf (PySem.intKind prog w) kvs) (hn : kvs.length ≤ 1000) (hm : k ∈ keysOf kvs)
    (h : ∀ h' o' v, Fr h₀ L h' m → News h₀ L h' (g o') → o'.IsDictOf (PySem.intKind prog w) (without kvs k) → Q v { s with heap := h', toks := s.toks + 1 }) :
    wpAny (model prog w) A (call (.builtin "dict.pop") [.ref d, .int k t]) Q E s := by
  obtain ⟨v, hv⟩ := valueAt_ex hm
  exact kob_pop F N U hd (intKind_is _ _ _ _) (.inl rfl) rfl (PySem.F.args_dict_pop_2 _ _) hv (by rw [sizeLine_eq]; omega) fun h' o' F' N' hd' => h h' o' v F' N' hd'
end
end Mine
end

section
open PySem PySem.W PyProof.Rows PySem.Calls
set_option maxRecDepth 100000
namespace Mine
section
variable {prog : Program} {w : World} {A : Around} {E : Value → Shared → Prop} {s : Shared} {h₀ : Heap} {L : Addr} {news n₁ n₂ : Led} {a b : Value} {d e : Dat} {Q : Value → Shared → Prop}
theorem dat_eqv {d e : Dat} (ha : kqdOk 8 d = true) (hb : kqdOk 8 e = true) : PyData.eqv (kqdP d) (kqdP e) = true ↔ d = e := kqd_eqv 8 d e 8 ha hb
theorem dat_shaped {d : Dat} (ha : kqdOk 8 d = true) : SeqAt.shaped (kqdP d) = true := by
  have l := kqd_lay 8 d ha
  unfold SeqAt.shaped
  rw [l.1, Bool.true_and]; exact decide_eq_true (Nat.le_trans l.2 (by decide))
theorem eq_dat (N : News h₀ L s.heap news) (Da : DatIn n₁ a d) (sa : ∀ p ∈ n₁, p ∈ news) (Db : DatIn n₂ b e) (sb : ∀ p ∈ n₂, p ∈ news) (ha : kqdOk 8 d = true) (hb : kqdOk 8 e = true) (hu : A.units + 64 < cLine)
    (h1 : d = e → Q (.bool true) s) (h2 : d ≠ e → Q (.bool false) s) : wpAny (model prog w) A (compareOp .Eq a b) Q E s := by
  obtain ⟨as, ra⟩ := kqd_in N 8 (Da.mono sa) ha
  obtain ⟨bs, rb⟩ := kqd_in N 8 (Db.mono sb) hb
  refine eq_dataH ra rb (dat_shaped ha) (dat_shaped hb) hu ?_
  cases hq : PyData.eqv (kqdP d) (kqdP e) with
  | true => exact h1 ((dat_eqv ha hb).mp hq)
  | false => exact h2 fun x => by rw [(dat_eqv ha hb).mpr x] at hq; cases hq
theorem ne_dat (N : News h₀ L s.heap news) (Da : DatIn n₁ a d) (sa : ∀ p ∈ n₁, p ∈ news) (Db : DatIn n₂ b e) (sb : ∀ p ∈ n₂, p ∈ news) (ha : kqdOk 8 d = true) (hb : kqdOk 8 e = true) (hu : A.units + 64 < cLine)
    (h1 : d = e → Q (.bool false) s) (h2 : d ≠ e → Q (.bool true) s) : wpAny (model prog w) A (compareOp .NotEq a b) Q E s := by
  obtain ⟨as, ra⟩ := kqd_in N 8 (Da.mono sa) ha
  obtain ⟨bs, rb⟩ := kqd_in N 8 (Db.mono sb) hb
  refine ne_dataH ra rb (dat_shaped ha) (dat_shaped hb) hu ?_
  cases hq : PyData.eqv (kqdP d) (kqdP e) with
  | true => exact h1 ((dat_eqv ha hb).mp hq)
  | false => exact h2 fun x => by rw [(dat_eqv ha hb).mpr x] at hq; cases hq
end
noncomputable def datP (p : P2) : Dat := .tuple [.int p.1, .int p.2]
noncomputable def datR (ps : List P2) : Dat := .list (ps.map datP)
noncomputable def datI (ns : List Int) : Dat := .list (ns.map .int)
theorem datP_inj {p q : P2} (h : datP p = datP q) : p = q := by
  obtain ⟨a, b⟩ := p; obtain ⟨c, d⟩ := q
  simp only [datP, Dat.tuple.injEq, List.cons.injEq, Dat.int.injEq, and_true] at h
  exact Prod.ext h.1 h.2
theorem datR_iff {ps qs : List P2} : datR ps = datR qs ↔ ps = qs := by
  refine ⟨fun h => ?_, fun h => h ▸ rfl⟩
  simp only [datR, Dat.list.injEq] at h
  induction ps generalizing qs with
  | nil => cases qs with | nil => rfl | cons q qs => simp at h
  | cons p ps ih =>
    cases qs with
    | nil => simp at h
    | cons q qs =>
      rw [List.map_cons, List.map_cons, List.cons.injEq] at h
      rw [datP_inj h.1, ih h.2]
theorem datI_iff {ps qs : List Int} : datI ps = datI qs ↔ ps = qs := by
  refine ⟨fun h => ?_, fun h => h ▸ rfl⟩
  simp only [datI, Dat.list.injEq] at h
  induction ps generalizing qs with
  | nil => cases qs with | nil => rfl | cons q qs => simp at h
  | cons p ps ih =>
    cases qs with
    | nil => simp at h
    | cons q qs =>
      rw [List.map_cons, List.map_cons, List.cons.injEq, Dat.int.injEq] at h
      rw [h.1, ih h.2]
theorem datR_ok (ps : List P2) : kqdOk 7 (datR ps) = true := by
  simp only [datR, kqdOk, List.all_eq_true, List.mem_map]
  rintro d ⟨p, _, rfl⟩
  simp [datP, kqdOk]
theorem datI_ok (ps : List Int) : kqdOk 7 (datI ps) = true := by
  simp only [datI, kqdOk, List.all_eq_true, List.mem_map]
  rintro d ⟨p, _, rfl⟩
  simp [kqdOk]
theorem datR_ok8 (ps : List P2) : kqdOk 8 (datR ps) = true := by
  simp only [datR, kqdOk, List.all_eq_true, List.mem_map]
  rintro d ⟨p, _, rfl⟩
  simp [datP, kqdOk]
theorem datI_ok8 (ps : List Int) : kqdOk 8 (datI ps) = true := by
  simp only [datI, kqdOk, List.all_eq_true, List.mem_map]
  rintro d ⟨p, _, rfl⟩
  simp [kqdOk]
theorem PairIn.dat {I v p} (h : PairIn I v p) : DatIn I v (datP p) := by
  cases h with
  | mk h => exact .tuple h (.cons (.int _ _) (.cons (.int _ _) .nil))
theorem PairsIn.dat {I vs ps} (h : PairsIn I vs ps) : DatAll I vs (ps.map datP) := by
  induction h with
  | nil => exact .nil
  | cons h _ ih => exact .cons h.dat ih
theorem RngIn.dat {I l ps} (h : RngIn I l ps) : DatIn I (.ref l) (datR ps) := by
  obtain ⟨vs, n, h, k⟩ := h
  exact .list h k.dat
theorem ints_dat {I : Led} {vs : List Value} {ns : List Int} (h : IntsAre vs ns) : DatAll I vs (ns.map .int) := by
  induction h with
  | nil => exact .nil
  | cons i t _ ih => exact .cons (.int _ _) ih
theorem IntsIn.dat {I l ns} (h : IntsIn I l ns) : DatIn I (.ref l) (datI ns) := by
  obtain ⟨vs, n, h, k⟩ := h
  exact .list h (ints_dat k)
theorem nil_dat {I : Led} {l : Addr} {n : Nat} (h : (l, listOf [].toArray n) ∈ I) : DatIn I (.ref l) (datR []) := .list h .nil
theorem nil_datI {I : Led} {l : Addr} {n : Nat} (h : (l, listOf [].toArray n) ∈ I) : DatIn I (.ref l) (datI []) := .list h .nil
noncomputable def datO : Option Int → Dat
  | none => .none
  | some k => .int k
theorem OptI.dat {I : Led} {v o} (h : OptI v o) : DatIn I v (datO o) := by cases h <;> constructor
/- lists of truth values -/
theorem bools_reads {h : Heap} : ∀ bs : List Bool, ReadsAll h (bs.map Value.bool) (bs.map PyData.bool) []
  | [] => .nil
  | b :: bs => ReadsAll.cons (as := []) (.bool b) (bools_reads bs)
theorem bools_eqv : ∀ bs cs : List Bool, PyData.eqvAll (bs.map .bool) (cs.map .bool) = decide (bs = cs)
  | [], [] => rfl
  | [], _ :: _ => rfl
  | _ :: _, [] => rfl
  | b :: bs, c :: cs => by
    rw [List.map_cons, List.map_cons, PyData.eqvAll, bools_eqv bs cs, PyData.eqv]
    cases b <;> cases c <;> simp
theorem bools_shaped (bs : List Bool) : SeqAt.shaped (.list (bs.map .bool)) = true := by
  have h1 : ∀ bs : List Bool, PyData.canLayAll0 (bs.map .bool) = true := fun bs => by
    induction bs with
    | nil => rfl
    | cons b bs ih => rw [List.map_cons, PyData.canLayAll0, ih]; rfl
  have h2 : ∀ bs : List Bool, PyData.depthAll (bs.map .bool) = 0 := fun bs => by
    induction bs with
    | nil => rfl
    | cons b bs ih => rw [List.map_cons, PyData.depthAll, ih]; rfl
  unfold SeqAt.shaped
  rw [PyData.canLay0, PyData.depth, h1, h2]; rfl
theorem ne_bools {prog : Program} {w : World} {A : Around} {E : Value → Shared → Prop} {s : Shared} {h₀ : Heap} {L : Addr} {news : Led} {Q : Value → Shared → Prop} {x y : Addr} {bs cs : List Bool} {n k : Nat} (N : News h₀ L s.heap news)
    (hx : (x, listOf (bs.map Value.bool).toArray n) ∈ news) (hy : (y, listOf (cs.map Value.bool).toArray k) ∈ news) (hu : A.units + 64 < cLine)
    (h1 : bs = cs → Q (.bool false) s) (h2 : bs ≠ cs → Q (.bool true) s) : wpAny (model prog w) A (compareOp .NotEq (.ref x) (.ref y)) Q E s := by
  refine ne_dataH (reads_list_at (N.get hx) rfl rfl (by simpa [PySem.W.listOf] using bools_reads bs)) (reads_list_at (N.get hy) rfl rfl (by simpa [PySem.W.listOf] using bools_reads cs)) (bools_shaped bs) (bools_shaped cs) hu ?_
  rw [PyData.eqv, bools_eqv]
  by_cases h : bs = cs
  · rw [decide_eq_true h]; exact h1 h
  · rw [decide_eq_false h]; exact h2 h
end Mine
end

section
open PySem PySem.W PyProof.Rows
namespace Mine
/-! the plain law: ranges as canonical lists -/
/-- all of the list lies below h - 1 and is canonical -/
noncomputable def CanonB : Int → List P2 → Prop
  | _, [] => True
  | h, p :: ps => p.2 + 1 < h ∧ p.1 ≤ p.2 ∧ CanonB p.1 ps
noncomputable def Canon : List P2 → Prop
  | [] => True
  | p :: ps => p.1 ≤ p.2 ∧ CanonB p.1 ps
noncomputable def InR (ps : List P2) (x : Int) : Prop := ∃ p ∈ ps, p.1 ≤ x ∧ x ≤ p.2
theorem hasNum_iff {ps : List P2} {x : Int} : hasNum ps x = true ↔ InR ps x := by
  unfold hasNum InR; rw [List.any_eq_true]; simp
theorem InR.nil {x : Int} : ¬ InR [] x := by rintro ⟨p, h, _⟩; simp at h
theorem InR.cons {p : P2} {ps : List P2} {x : Int} : InR (p :: ps) x ↔ (p.1 ≤ x ∧ x ≤ p.2) ∨ InR ps x := by
  unfold InR; simp
theorem InR.app {ps qs : List P2} {x : Int} : InR (ps ++ qs) x ↔ InR ps x ∨ InR qs x := by
  unfold InR; simp only [List.mem_append, or_and_right, exists_or]
theorem CanonB.lt {h : Int} {ps : List P2} (c : CanonB h ps) {x : Int} (hx : InR ps x) : x + 1 < h := by
  induction ps generalizing h with
  | nil => exact absurd hx InR.nil
  | cons p ps ih =>
    obtain ⟨c1, c2, c3⟩ := c
    rcases InR.cons.mp hx with h1 | h1
    · (first | lia | omega)
    · have := ih c3 h1; (first | lia | omega)
theorem Canon.b {ps : List P2} (c : Canon ps) : ∃ h, CanonB h ps := by
  cases ps with
  | nil => exact ⟨0, trivial⟩
  | cons p ps => exact ⟨p.2 + 2, by show p.2 + 1 < _; (first | lia | omega), c.1, c.2⟩
theorem CanonB.c {h : Int} {ps : List P2} (c : CanonB h ps) : Canon ps := by
  cases ps with
  | nil => trivial
  | cons p ps => exact ⟨c.2.1, c.2.2⟩
theorem Canon.bound {h : Int} {ps : List P2} (c : Canon ps) (k : ∀ x, InR ps x → x + 1 < h) : CanonB h ps := by
  cases ps with
  | nil => trivial
  | cons p ps => exact ⟨k p.2 (InR.cons.mpr (.inl ⟨c.1, Int.le_refl _⟩)), c.1, c.2⟩
theorem CanonB.mono {h k : Int} {ps : List P2} (c : CanonB h ps) (l : h ≤ k) : CanonB k ps := by
  cases ps with
  | nil => trivial
  | cons p ps => exact ⟨Int.lt_of_lt_of_le c.1 l, c.2.1, c.2.2⟩

/- add_range, told by recursion from the front -/
noncomputable def ins (lo hi : Int) : List P2 → List P2
  | [] => [(lo, hi)]
  | o :: os => if o.1 > hi + 1 then o :: ins lo hi os else if o.2 < lo - 1 then (lo, hi) :: o :: os
      else ins (if o.1 < lo then o.1 else lo) (if o.2 > hi then o.2 else hi) os
theorem fold_done {lo hi : Int} : ∀ (ps : List P2) (f : List P2) (h : Int), CanonB h ps → h ≤ lo → lo ≤ hi → (ps.foldl arStep ⟨f, true, lo, hi⟩) = ⟨f ++ ps, true, lo, hi⟩
  | [], f, h, _, _, _ => by simp
  | o :: os, f, h, c, hl, hh => by
    obtain ⟨x, y⟩ := o
    obtain ⟨c1, c2, c3⟩ := c
    dsimp only at c1 c2 c3
    rw [List.foldl_cons, arStep_2 (by (first | lia | omega)) (by (first | lia | omega)) rfl, fold_done os _ x c3 (by (first | lia | omega)) hh]
    simp
theorem fold_ins : ∀ (ps : List P2) (f : List P2) (lo hi : Int), Canon ps → lo ≤ hi → (let s := ps.foldl arStep ⟨f, false, lo, hi⟩; if s.b then s.f else s.f ++ [(s.lo, s.hi)]) = f ++ ins lo hi ps
  | [], f, lo, hi, _, _ => by simp [ins]
  | o :: os, f, lo, hi, c, hl => by
    obtain ⟨x, y⟩ := o
    obtain ⟨c1, c2⟩ := c
    dsimp only at c1 c2
    rw [List.foldl_cons]
    by_cases h1 : hi + 1 < x
    · rw [arStep_1 h1, fold_ins os _ lo hi c2.c hl]
      simp only [ins]; rw [if_pos h1]; simp
    · by_cases h2 : y < lo - 1
      · rw [arStep_3 h1 h2 rfl, fold_done os _ x c2 (by (first | lia | omega)) hl]
        simp only [ins]; rw [if_neg (show ¬ x > hi + 1 from h1), if_pos h2]; simp
      · rw [arStep_4 h1 h2, fold_ins os _ _ _ c2.c (by split <;> split <;> (first | lia | omega))]
        simp only [ins]; rw [if_neg (show ¬ x > hi + 1 from h1), if_neg h2]
theorem addRange_ins {ps : List P2} {lo hi : Int} (c : Canon ps) (h : lo ≤ hi) : addRange ps lo hi = ins lo hi ps := by
  have := fold_ins ps [] lo hi c h
  simpa [addRange] using this
theorem ins_mem : ∀ (ps : List P2) (lo hi x : Int), Canon ps → lo ≤ hi → (InR (ins lo hi ps) x ↔ InR ps x ∨ (lo ≤ x ∧ x ≤ hi))
  | [], lo, hi, x, _, _ => by simp [ins, InR]
  | o :: os, lo, hi, x, c, hl => by
    obtain ⟨a, b⟩ := o
    obtain ⟨c1, c2⟩ := c
    dsimp only at c1 c2
    simp only [ins]
    by_cases h1 : a > hi + 1
    · rw [if_pos h1, InR.cons, ins_mem os lo hi x c2.c hl, InR.cons, or_assoc]
    · rw [if_neg h1]
      by_cases h2 : b < lo - 1
      · rw [if_pos h2, InR.cons, InR.cons]; dsimp only; exact ⟨fun h => h.elim .inr .inl, fun h => h.elim .inr .inl⟩
      · rw [if_neg h2, ins_mem os _ _ x c2.c (by split <;> split <;> (first | lia | omega)), InR.cons]
        dsimp only
        have : ((if a < lo then a else lo) ≤ x ∧ x ≤ (if b > hi then b else hi)) ↔ ((a ≤ x ∧ x ≤ b) ∨ (lo ≤ x ∧ x ≤ hi)) := by
          split <;> split <;> (first | lia | omega)
        rw [this]
        constructor
        · rintro (h | h | h)
          · exact .inl (.inr h)
          · exact .inl (.inl h)
          · exact .inr h
        · rintro ((h | h) | h)
          · exact .inr (.inl h)
          · exact .inl h
          · exact .inr (.inr h)
theorem ins_canonB : ∀ (ps : List P2) (lo hi h : Int), CanonB h ps → lo ≤ hi → hi + 1 < h → CanonB h (ins lo hi ps)
  | [], lo, hi, h, _, hl, hh => ⟨hh, hl, trivial⟩
  | o :: os, lo, hi, h, c, hl, hh => by
    obtain ⟨a, b⟩ := o
    obtain ⟨c1, c2, c3⟩ := c
    dsimp only at c1 c2 c3
    simp only [ins]
    by_cases h1 : a > hi + 1
    · rw [if_pos h1]
      exact ⟨c1, c2, ins_canonB os lo hi a c3 hl (by (first | lia | omega))⟩
    · rw [if_neg h1]
      by_cases h2 : b < lo - 1
      · rw [if_pos h2]
        exact ⟨hh, hl, by show b + 1 < lo; (first | lia | omega), c2, c3⟩
      · rw [if_neg h2]
        refine ins_canonB os _ _ h (c3.mono (by (first | lia | omega))) ?_ ?_
        · split <;> split <;> (first | lia | omega)
        · split <;> (first | lia | omega)
theorem addRange_canon {ps : List P2} {lo hi : Int} (c : Canon ps) (h : lo ≤ hi) : Canon (addRange ps lo hi) := by
  rw [addRange_ins c h]
  obtain ⟨k, hk⟩ := c.b
  have hm : CanonB (if k ≤ hi + 2 then hi + 2 else k) ps := hk.mono (by split <;> (first | lia | omega))
  exact (ins_canonB ps lo hi _ hm h (by split <;> (first | lia | omega))).c
theorem addRange_mem {ps : List P2} {lo hi x : Int} (c : Canon ps) (h : lo ≤ hi) : InR (addRange ps lo hi) x ↔ InR ps x ∨ (lo ≤ x ∧ x ≤ hi) := by
  rw [addRange_ins c h]; exact ins_mem ps lo hi x c h

/- prune -/
theorem pruneR_cons {p : P2} {ps : List P2} {low : Int} : pruneR (p :: ps) low = if low ≤ p.2 then (if low > p.1 then low else p.1, p.2) :: pruneR ps low else pruneR ps low := by
  unfold pruneR
  rw [List.filter_cons]
  split <;> rename_i h
  · rw [List.map_cons, if_pos (of_decide_eq_true h)]
  · rw [if_neg (fun k => h (decide_eq_true k))]
theorem pruneR_mem {ps : List P2} {low x : Int} : InR (pruneR ps low) x ↔ InR ps x ∧ low ≤ x := by
  induction ps with
  | nil => simp [pruneR, InR]
  | cons p ps ih =>
    rw [pruneR_cons, InR.cons]
    split <;> rename_i h
    · rw [InR.cons, ih]; dsimp only
      constructor
      · rintro (h1 | h1)
        · refine ⟨.inl ⟨?_, h1.2⟩, ?_⟩ <;> (split at h1 <;> (first | lia | omega))
        · exact ⟨.inr h1.1, h1.2⟩
      · rintro ⟨h1 | h1, h2⟩
        · refine .inl ⟨?_, h1.2⟩; split <;> (first | lia | omega)
        · exact .inr ⟨h1, h2⟩
    · rw [ih]
      constructor
      · rintro ⟨h1, h2⟩; exact ⟨.inr h1, h2⟩
      · rintro ⟨h1 | h1, h2⟩
        · (first | lia | omega)
        · exact ⟨h1, h2⟩
theorem pruneR_canonB {low : Int} : ∀ (ps : List P2) (h : Int), CanonB h ps → CanonB h (pruneR ps low)
  | [], _, _ => trivial
  | p :: ps, h, c => by
    obtain ⟨c1, c2, c3⟩ := c
    rw [pruneR_cons]
    split <;> rename_i h1
    · refine ⟨c1, ?_, (pruneR_canonB ps _ c3).mono ?_⟩
      · dsimp only; split <;> (first | lia | omega)
      · dsimp only; split <;> (first | lia | omega)
    · exact pruneR_canonB ps h (c3.mono (by (first | lia | omega)))
theorem pruneR_canon {ps : List P2} {low : Int} (c : Canon ps) : Canon (pruneR ps low) := by
  obtain ⟨h, hc⟩ := c.b
  exact (pruneR_canonB ps h hc).c

/- one canonical list a set -/
theorem canon_ext : ∀ (ps qs : List P2), Canon ps → Canon qs → (∀ x, InR ps x ↔ InR qs x) → ps = qs
  | [], [], _, _, _ => rfl
  | [], q :: qs, _, cq, h => absurd ((h q.2).mpr (InR.cons.mpr (.inl ⟨cq.1, Int.le_refl _⟩))) InR.nil
  | p :: ps, [], cp, _, h => absurd ((h p.2).mp (InR.cons.mpr (.inl ⟨cp.1, Int.le_refl _⟩))) InR.nil
  | p :: ps, q :: qs, cp, cq, h => by
    have top : ∀ {r : P2} {rs : List P2}, Canon (r :: rs) → ∀ {x}, InR (r :: rs) x → x ≤ r.2 := by
      intro r rs c x hx
      rcases InR.cons.mp hx with h1 | h1
      · exact h1.2
      · have := c.2.lt h1; have := c.1; (first | lia | omega)
    have e2 : p.2 = q.2 := Int.le_antisymm (top cq ((h p.2).mp (InR.cons.mpr (.inl ⟨cp.1, Int.le_refl _⟩)))) (top cp ((h q.2).mpr (InR.cons.mpr (.inl ⟨cq.1, Int.le_refl _⟩))))
    have bot : ∀ {r s : P2} {rs ss : List P2}, Canon (r :: rs) → Canon (s :: ss) → (∀ x, InR (r :: rs) x ↔ InR (s :: ss) x) → r.2 = s.2 → s.1 ≤ r.1 := by
      intro r s rs ss cr cs h e
      -- s.1 - 1 is not in s :: ss
      by_cases hl : s.1 ≤ r.1
      · exact hl
      · exfalso
        have h1 : InR (r :: rs) (s.1 - 1) := InR.cons.mpr (.inl ⟨by (first | lia | omega), by have := cs.1; (first | lia | omega)⟩)
        rcases InR.cons.mp ((h _).mp h1) with h2 | h2
        · (first | lia | omega)
        · have := cs.2.lt h2; (first | lia | omega)
    have e1 : p.1 = q.1 := Int.le_antisymm (bot cq cp (fun x => (h x).symm) e2.symm) (bot cp cq h e2)
    have e : p = q := Prod.ext e1 e2
    subst e
    refine congrArg (p :: ·) (canon_ext ps qs cp.2.c cq.2.c fun x => ?_)
    have hx := h x
    rw [InR.cons, InR.cons] at hx
    constructor
    · intro k
      rcases hx.mp (.inr k) with k2 | k2
      · have := cp.2.lt k; (first | lia | omega)
      · exact k2
    · intro k
      rcases hx.mpr (.inr k) with k2 | k2
      · have := cq.2.lt k; (first | lia | omega)
      · exact k2
theorem CanonB.take {h : Int} {ps : List P2} (c : CanonB h ps) : ∀ k : Nat, CanonB h (ps.take k) := by
  induction ps generalizing h with
  | nil => intro k; simp; trivial
  | cons p ps ih =>
    intro k
    cases k with
    | zero => trivial
    | succ k => exact ⟨c.1, c.2.1, ih c.2.2 k⟩
theorem Canon.take {ps : List P2} (c : Canon ps) (k : Nat) : Canon (ps.take k) := by
  obtain ⟨h, hc⟩ := c.b
  exact (hc.take k).c
theorem InR.take {ps : List P2} {k : Nat} {x : Int} (h : InR (ps.take k) x) : InR ps x := by
  obtain ⟨p, hp, hx⟩ := h
  exact ⟨p, List.mem_of_mem_take hp, hx⟩

theorem InR.mem {ps : List P2} {p : P2} (h : p ∈ ps) (l : p.1 ≤ p.2) : InR ps p.2 := ⟨p, h, l, Int.le_refl _⟩
theorem CanonB.mem {h : Int} {ps : List P2} (c : CanonB h ps) : ∀ p ∈ ps, p.1 ≤ p.2 := by
  induction ps generalizing h with
  | nil => intro p hp; simp at hp
  | cons q ps ih =>
    intro p hp
    rcases List.mem_cons.mp hp with rfl | hp
    · exact c.2.1
    · exact ih c.2.2 p hp
theorem Canon.mem {ps : List P2} (c : Canon ps) : ∀ p ∈ ps, p.1 ≤ p.2 := by
  obtain ⟨h, hc⟩ := c.b
  exact hc.mem
theorem CanonB.len {h : Int} {ps : List P2} (c : CanonB h ps) (l : ∀ x, InR ps x → 0 ≤ x) : ps.length ≤ h.toNat := by
  induction ps generalizing h with
  | nil => simp
  | cons q ps ih =>
    have h1 := ih c.2.2 fun x hx => l x (InR.cons.mpr (.inr hx))
    have h2 := l q.1 (InR.cons.mpr (.inl ⟨Int.le_refl _, c.2.1⟩))
    have h3 := c.1
    have h4 := c.2.1
    rw [List.length_cons]; (first | lia | omega)
theorem Canon.len {M : Int} {ps : List P2} (c : Canon ps) (l : ∀ x, InR ps x → 0 ≤ x ∧ x < M) : ps.length ≤ (M + 1).toNat :=
  (c.bound (h := M + 1) fun x hx => by have := (l x hx).2; (first | lia | omega)).len fun x hx => (l x hx).1
theorem Canon.top {p : P2} {ps : List P2} (c : Canon (p :: ps)) {x : Int} (hx : InR (p :: ps) x) : x ≤ p.2 := by
  rcases InR.cons.mp hx with h1 | h1
  · exact h1.2
  · have := c.2.lt h1; have := c.1; (first | lia | omega)

/- noting a word -/
theorem note_fold {least : Int} : ∀ (ws ac : List P2), Canon ac → (∀ p ∈ ws, p.1 ≤ p.2) → Canon (ws.foldl (noteF least) ac) ∧ ∀ x, InR (ws.foldl (noteF least) ac) x ↔ InR ac x ∨ ∃ p ∈ ws, least ≤ p.2 ∧ p.1 ≤ x ∧ x ≤ p.2
  | [], ac, c, _ => ⟨c, fun x => by simp⟩
  | q :: ws, ac, c, h => by
    have hq := h q (.head _)
    have hc : Canon (noteF least ac q) := by
      unfold noteF; split
      · exact addRange_canon c hq
      · exact c
    have hm : ∀ x, InR (noteF least ac q) x ↔ InR ac x ∨ (least ≤ q.2 ∧ q.1 ≤ x ∧ x ≤ q.2) := fun x => by
      unfold noteF; split <;> rename_i hl
      · rw [addRange_mem c hq]; simp [hl]
      · simp [hl]
    obtain ⟨h1, h2⟩ := note_fold ws (noteF least ac q) hc fun p hp => h p (.tail _ hp)
    refine ⟨h1, fun x => ?_⟩
    rw [List.foldl_cons, h2 x, hm x]
    constructor
    · rintro ((h3 | h3) | ⟨p, hp, h4⟩)
      · exact .inl h3
      · exact .inr ⟨q, .head _, h3⟩
      · exact .inr ⟨p, .tail _ hp, h4⟩
    · rintro (h3 | ⟨p, hp, h4⟩)
      · exact .inl (.inl h3)
      · rcases List.mem_cons.mp hp with rfl | hp
        · exact .inl (.inr h4)
        · exact .inr ⟨p, hp, h4⟩

/- what a sender knows when it has heard words -/
noncomputable def told (wss : List (List P2)) (x : Int) : Bool := wss.any fun ws => hasNum ws x
theorem told_app {wss : List (List P2)} {ws : List P2} {x : Int} : told (wss ++ [ws]) x = (told wss x || hasNum ws x) := by simp [told]
theorem told_mem {wss : List (List P2)} {x : Int} : told wss x = true ↔ ∃ ws ∈ wss, InR ws x := by
  unfold told; rw [List.any_eq_true]; simp only [hasNum_iff]
noncomputable def LaOK (t : Int → Bool) : Option Int → Prop
  | none => ∀ x, t x = false
  | some m => t m = true ∧ ∀ x, t x = true → x ≤ m
structure SInv (M : Nat) (wss : List (List P2)) (a : SndA) : Prop where
  n : a.n = M
  sent : a.sent = (rng M).filter fun x => !told wss x
  la : LaOK (told wss) a.la
  can : Canon a.ack
  ack : ∃ k, IsLeast a.n a.sent k ∧ ∀ x, InR a.ack x ↔ (told wss x = true ∧ k ≤ x)
noncomputable def Good (M : Nat) (ws : List P2) : Prop := Canon ws ∧ ∀ x, InR ws x → 0 ≤ x ∧ x < M
theorem isLeast_ex (n : Int) : ∀ sent : List Int, ∃ k, IsLeast n sent k
  | [] => ⟨n, .inl ⟨rfl, rfl⟩⟩
  | a :: l => by
    obtain ⟨k, hk⟩ := isLeast_ex a l
    rcases hk with ⟨rfl, rfl⟩ | ⟨h1, h2⟩
    · exact ⟨k, .inr ⟨by simp, by simp⟩⟩
    · by_cases h : k ≤ a
      · exact ⟨k, .inr ⟨.tail _ h1, fun b hb => by rcases List.mem_cons.mp hb with rfl | hb; exact h; exact h2 b hb⟩⟩
      · exact ⟨a, .inr ⟨.head _, fun b hb => by rcases List.mem_cons.mp hb with rfl | hb; exact Int.le_refl _; have := h2 b hb; (first | lia | omega)⟩⟩
theorem IsLeast.uniq {n k j : Int} {sent : List Int} (h : IsLeast n sent k) (g : IsLeast n sent j) : k = j := by
  rcases h with ⟨h1, h2⟩ | ⟨h1, h2⟩ <;> rcases g with ⟨g1, g2⟩ | ⟨g1, g2⟩
  · rw [h2, g2]
  · rw [h1] at g1; simp at g1
  · rw [g1] at h1; simp at h1
  · exact Int.le_antisymm (h2 j g1) (g2 k h1)
theorem SInv.start (M : Nat) : SInv M [] ⟨M, rng M, none, []⟩ := by
  refine ⟨rfl, ?_, fun x => rfl, trivial, ?_⟩
  · exact (List.filter_eq_self.mpr fun x _ => rfl).symm
  · obtain ⟨k, hk⟩ := isLeast_ex M (rng M)
    exact ⟨k, hk, fun x => ⟨fun h => absurd h InR.nil, fun h => by simp [told] at h⟩⟩
theorem SInv.step {M : Nat} {wss : List (List P2)} {a a' : SndA} {ws : List P2} (h : SInv M wss a) (g : Good M ws) (hh : Hear ws a a') : SInv M (wss ++ [ws]) a' := by
  rcases hh with ⟨rfl, rfl⟩ | ⟨p, qs, least, rfl, hl, rfl⟩
  · have e : ∀ x, told (wss ++ [[]]) x = told wss x := fun x => by rw [told_app]; simp [hasNum]
    have e' : told (wss ++ [[]]) = told wss := funext e
    exact ⟨h.n, by rw [e']; exact h.sent, by rw [e']; exact h.la, h.can, by rw [e']; exact h.ack⟩
  · obtain ⟨k, hk, hm⟩ := h.ack
    have hs : a.sent.filter (fun x => !hasNum (p :: qs) x) = (rng M).filter fun x => !told (wss ++ [p :: qs]) x := by
      rw [h.sent, List.filter_filter]
      apply List.filter_congr
      intro x _
      rw [told_app, Bool.not_or, Bool.and_comm]
    obtain ⟨f1, f2⟩ := note_fold (least := least) (p :: qs) a.ack h.can g.1.mem
    have hkl : k ≤ least := by
      have hsub : ∀ x ∈ a.sent, x < M := fun x hx => by rw [h.sent] at hx; exact (rng_mem.mp (List.mem_filter.mp hx).1).2
      rcases hl with ⟨e1, e2⟩ | ⟨e1, e2⟩
      · rcases hk with ⟨k1, k2⟩ | ⟨k1, k2⟩
        · rw [k2]; exact Int.le_of_eq e2.symm
        · have := hsub k k1; have := h.n; (first | lia | omega)
      · have e3 := (List.mem_filter.mp e1).1
        rcases hk with ⟨k1, k2⟩ | ⟨k1, k2⟩
        · rw [k1] at e3; simp at e3
        · exact k2 _ e3
    refine ⟨h.n, hs, ?_, pruneR_canon f1, least, hl, fun x => ?_⟩
    · have hp : hasNum (p :: qs) p.2 = true := hasNum_iff.mpr (InR.mem (.head _) (g.1.mem _ (.head _)))
      have ht : ∀ x, hasNum (p :: qs) x = true → x ≤ p.2 := fun x hx => g.1.top (hasNum_iff.mp hx)
      have la := h.la
      show LaOK _ (some (omax a.la p.2))
      cases hla : a.la with
      | none =>
        rw [hla] at la
        refine ⟨?_, fun x hx => ?_⟩
        · rw [told_app]; show (_ || hasNum _ p.2) = true; rw [hp, Bool.or_true]
        · rw [told_app, la x, Bool.false_or] at hx; exact ht x hx
      | some j =>
        rw [hla] at la
        obtain ⟨la1, la2⟩ := la
        by_cases hj : j < p.2
        · rw [← omax_yes hj]
          refine ⟨by rw [told_app, hp, Bool.or_true], fun x hx => ?_⟩
          rw [told_app, Bool.or_eq_true] at hx
          rcases hx with hx | hx
          · have := la2 x hx; (first | lia | omega)
          · exact ht x hx
        · rw [← omax_no hj]
          refine ⟨by rw [told_app, la1, Bool.true_or], fun x hx => ?_⟩
          rw [told_app, Bool.or_eq_true] at hx
          rcases hx with hx | hx
          · exact la2 x hx
          · have := ht x hx; (first | lia | omega)
    · show InR (pruneR _ least) x ↔ _
      rw [pruneR_mem, f2, hm, told_app, Bool.or_eq_true, hasNum_iff]
      constructor
      · rintro ⟨⟨h1, _⟩ | ⟨q, hq, _, h2⟩, h3⟩
        · exact ⟨.inl h1, h3⟩
        · exact ⟨.inr ⟨q, hq, h2⟩, h3⟩
      · rintro ⟨h1 | ⟨q, hq, h2⟩, h3⟩
        · exact ⟨.inl ⟨h1, Int.le_trans hkl h3⟩, h3⟩
        · exact ⟨.inr ⟨q, hq, Int.le_trans h3 h2.2, h2⟩, h3⟩
theorem LaOK.uniq {t : Int → Bool} {a b : Option Int} (h : LaOK t a) (g : LaOK t b) : a = b := by
  cases a with
  | none => cases b with
    | none => rfl
    | some m => have g1 : t m = true := g.1; have h1 : t m = false := h m; rw [h1] at g1; cases g1
  | some j => cases b with
    | none => have g1 : t j = false := g j; have h1 : t j = true := h.1; rw [h1] at g1; cases g1
    | some m => exact congrArg some (Int.le_antisymm (g.2 j h.1) (h.2 m g.1))
theorem SInv.uniq {M : Nat} {wss wss' : List (List P2)} {a a' : SndA} (h : SInv M wss a) (h' : SInv M wss' a') (e : ∀ x, told wss x = told wss' x) : a = a' := by
  have e' : told wss = told wss' := funext e
  have e1 : a.n = a'.n := by rw [h.n, h'.n]
  have e2 : a.sent = a'.sent := by rw [h.sent, h'.sent, e']
  have e3 : a.la = a'.la := LaOK.uniq h.la (by rw [e']; exact h'.la)
  have e4 : a.ack = a'.ack := by
    obtain ⟨k, hk, hm⟩ := h.ack
    obtain ⟨k', hk', hm'⟩ := h'.ack
    rw [e1, e2] at hk
    have : k = k' := hk.uniq hk'
    subst this
    exact canon_ext _ _ h.can h'.can fun x => by rw [hm, hm', e x]
  obtain ⟨n, s, l, ac⟩ := a
  obtain ⟨n', s', l', ac'⟩ := a'
  cases e1; cases e2; cases e3; cases e4; rfl
theorem SInv.sent_len {M wss a} (h : SInv M wss a) : a.sent.length ≤ M := by
  rw [h.sent]; exact Nat.le_trans (List.length_filter_le _ _) (by rw [rng_len]; exact Nat.le_refl _)
theorem SInv.ack_in {M : Nat} {wss a} (h : SInv M wss a) (g : ∀ ws ∈ wss, Good M ws) : ∀ x, InR a.ack x → 0 ≤ x ∧ x < M := fun x hx => by
  obtain ⟨k, _, hm⟩ := h.ack
  obtain ⟨ws, hw, hi⟩ := told_mem.mp ((hm x).mp hx).1
  exact (g ws hw).2 x hi
theorem SInv.ack_len {M : Nat} {wss a} (h : SInv M wss a) (g : ∀ ws ∈ wss, Good M ws) : a.ack.length ≤ M + 1 := by
  have := h.can.len (h.ack_in g)
  (first | lia | omega)

inductive WdsIn (I : Led) : List Value → List (List P2) → Prop
  | nil : WdsIn I [] []
  | cons {a vs ws wss} : RngIn I a ws → WdsIn I vs wss → WdsIn I (.ref a :: vs) (ws :: wss)
noncomputable def WordsIn (I : Led) (l : Addr) (wss : List (List P2)) : Prop := ∃ vs n, (l, listOf vs.toArray n) ∈ I ∧ WdsIn I vs wss
theorem WdsIn.mono {I J : Led} {vs wss} (h : WdsIn I vs wss) (hs : ∀ p ∈ I, p ∈ J) : WdsIn J vs wss := by
  induction h with
  | nil => exact .nil
  | cons h _ ih => exact .cons (h.mono hs) ih
theorem WordsIn.mono {I J : Led} {l wss} (h : WordsIn I l wss) (hs : ∀ p ∈ I, p ∈ J) : WordsIn J l wss := let ⟨vs, n, h, k⟩ := h; ⟨vs, n, hs _ h, k.mono hs⟩
theorem WdsIn.length {I : Led} {vs wss} (h : WdsIn I vs wss) : vs.length = wss.length := by
  induction h with
  | nil => rfl
  | cons _ _ ih => simp [ih]
theorem WdsIn.get {I : Led} {vs wss} (h : WdsIn I vs wss) {i : Nat} {v : Value} (hv : vs[i]? = some v) : ∃ a ws, v = .ref a ∧ wss[i]? = some ws ∧ RngIn I a ws := by
  induction h generalizing i with
  | nil => simp at hv
  | cons h _ ih =>
    cases i with
    | zero => simp at hv; subst hv; exact ⟨_, _, rfl, rfl, h⟩
    | succ i => simpa using ih (by simpa using hv)
theorem WdsIn.append {I : Led} {vs ps ws qs} (h : WdsIn I vs ps) (k : WdsIn I ws qs) : WdsIn I (vs ++ ws) (ps ++ qs) := by
  induction h with
  | nil => exact k
  | cons h _ ih => exact .cons h ih
theorem WdsIn.reverse {I : Led} {vs ps} (h : WdsIn I vs ps) : WdsIn I vs.reverse ps.reverse := by
  induction h with
  | nil => exact .nil
  | cons h _ ih => rw [List.reverse_cons, List.reverse_cons]; exact ih.append (.cons h .nil)
theorem WdsIn.snoc {I : Led} {vs ps a ws} (h : WdsIn I vs ps) (k : RngIn I a ws) : WdsIn I (vs ++ [.ref a]) (ps ++ [ws]) := h.append (.cons k .nil)
theorem sorted_eq {xs ys : List Int} (h : xs.Perm ys) (hx : xs.Pairwise (· ≤ ·)) (hy : ys.Pairwise (· ≤ ·)) : xs = ys :=
  List.Perm.eq_of_pairwise (fun a b _ _ h1 h2 => Int.le_antisymm h1 h2) hx hy h
theorem rng_sorted (n : Nat) : (rng n).Pairwise (· ≤ ·) := by
  rw [rng, List.pairwise_map]
  exact List.pairwise_lt_range.imp fun h => by show (Int.ofNat _) ≤ Int.ofNat _; exact Int.ofNat_le.mpr (Nat.le_of_lt h)
theorem SInv.sorted {M wss a} (h : SInv M wss a) : a.sent.Pairwise (· ≤ ·) := by rw [h.sent]; exact (rng_sorted M).filter _
end Mine
end

section
open PySem PySem.W PyProof.Rows PySem.Calls
set_option maxRecDepth 100000
namespace Mine
open LCg LCt LCp
noncomputable def span (a : Int) (n : Nat) : List Int := (List.range n).map fun (i : Nat) => a + (i : Int)
theorem span_succ (a : Int) (n : Nat) : span a (n + 1) = span a n ++ [a + (n : Int)] := by simp [span, List.range_succ]
theorem span_len (a : Int) (n : Nat) : (span a n).length = n := by simp [span]
section
variable {prog : Program} {w : World} {A : Around} {E : Value → Shared → Prop} {s : Shared} {h₀ : Heap} {L : Addr} {m : Str → Option Value} {env : Env}
theorem compTurn_two1 (elt t1 i1 : Expr) (g0 : Comprehension) (scope : Scope) (pos : Pos) (it acc : Value) (env : Env) :
    compTurn (.ListComp elt [g0, ⟨t1, i1, [], 0⟩] scope pos) 1 it acc env = (standAt i1.pos >>= fun _ => pyNext it >>= fun r => match r with
      | none => pure (.done .next)
      | some v => letOwnedTupleGo t1 it v >>= fun _ => assign t1 env v >>= fun _ =>
        (eval elt env >>= fun x => call (.builtin "list.append") [acc, x] >>= fun _ => pure ()) >>= fun _ =>
          again (.compLoop (.ListComp elt [g0, ⟨t1, i1, [], 0⟩] scope pos) 1 it acc env)) := by rfl
theorem compTurn_two0 (elt t0 i0 t1 i1 : Expr) (scope : Scope) (pos : Pos) (it acc : Value) (env : Env) :
    compTurn (.ListComp elt [⟨t0, i0, [], 0⟩, ⟨t1, i1, [], 0⟩] scope pos) 0 it acc env = (standAt i0.pos >>= fun _ => pyNext it >>= fun r => match r with
      | none => pure (.done .next)
      | some v => letOwnedTupleGo t0 it v >>= fun _ => assign t0 env v >>= fun _ =>
        eval i1 env >>= fun x => standAt i1.pos >>= fun _ => foldedSetIterable i1 env x >>= fun x => holding [x] (pyIter x) >>= fun y =>
          runOwn (.compStart (.ListComp elt [⟨t0, i0, [], 0⟩, ⟨t1, i1, [], 0⟩] scope pos) 1 y acc env) env >>= fun _ =>
          again (.compLoop (.ListComp elt [⟨t0, i0, [], 0⟩, ⟨t1, i1, [], 0⟩] scope pos) 0 it acc env)) := by rfl

theorem wp_eq {α : Type} {M : Model} {t t' : Sem α} {Q : α → Shared → Prop} (e : t = t') (h : wpAny M A t' Q E s) : wpAny M A t Q E s := e ▸ h
theorem iter_range {r : Addr} {a b c k : Int} {t u v : Tok} {Q : Value → Shared → Prop} (hr : IsRange s.heap r a b c t u v) (hsmall : Builtin.Range.small a b c = true) (hk : Builtin.Range.rangeSize a b c = k)
    (hQ : Q (.ref s.heap.objs.size) { s with heap := s.heap.push { cls := .type "range_iterator", data := .fields #[rawInt a, rawInt k, rawInt c] } }) :
    wpAny (model prog w) A (pyIter (.ref r)) Q E s := by subst hk; exact wpAny_pyIter_range hr hsmall hQ
theorem own_none {M : Model} {c : Code} {Q : Flow → Shared → Prop}
    (hc : codeAny M A c (fun r s' => match r with | .ok f => Q f s' | .error e => cameBackBy M A env E e s') s) :
    wpAny M A (runOwn c env none) Q E s := wpAny_runOwn (by rw [Around.mark_none]; exact hc) (by intro x; cases x)

theorem letW {α : Type} {P : Prop} (a : α) (k : let e := a; P) : P := k
theorem turn1 {ce : Expr} {elt t1 i1 : Expr} {g0 : Comprehension} {scope : Scope} {pos : Pos} {it acc : Value} {Q : Fin → Shared → Prop} (e : ce = .ListComp elt [g0, ⟨t1, i1, [], 0⟩] scope pos)
    (h : wpAny (model prog w) A (pyNext it) (fun r s' => wpAny (model prog w) A (match r with
      | none => pure (.done .next)
      | some v => letOwnedTupleGo t1 it v >>= fun _ => assign t1 env v >>= fun _ =>
        (eval elt env >>= fun x => call (.builtin "list.append") [acc, x] >>= fun _ => pure ()) >>= fun _ =>
          again (.compLoop ce 1 it acc env)) Q E s') E s) : wpAny (model prog w) A (compTurn ce 1 it acc env) Q E s := by
  subst e
  exact wp_eq (compTurn_two1 _ _ _ _ _ _ _ _ _) (wpAny_bind (wpAny_standAt (wpAny_bind h)))
theorem turn0 {ce : Expr} {elt t0 i0 t1 i1 : Expr} {scope : Scope} {pos : Pos} {it acc : Value} {Q : Fin → Shared → Prop} (e : ce = .ListComp elt [⟨t0, i0, [], 0⟩, ⟨t1, i1, [], 0⟩] scope pos)
    (h : wpAny (model prog w) A (pyNext it) (fun r s' => wpAny (model prog w) A (match r with
      | none => pure (.done .next)
      | some v => letOwnedTupleGo t0 it v >>= fun _ => assign t0 env v >>= fun _ =>
        eval i1 env >>= fun x => standAt i1.pos >>= fun _ => foldedSetIterable i1 env x >>= fun x => holding [x] (pyIter x) >>= fun y =>
          runOwn (.compStart ce 1 y acc env) env >>= fun _ =>
          again (.compLoop ce 0 it acc env)) Q E s') E s) : wpAny (model prog w) A (compTurn ce 0 it acc env) Q E s := by
  subst e
  exact wp_eq (compTurn_two0 _ _ _ _ _ _ _ _ _ _) (wpAny_bind (wpAny_standAt (wpAny_bind h)))

theorem start1 {elt t1 i1 : Expr} {g0 : Comprehension} {scope : Scope} {pos : Pos} {it acc : Value} {env : Env} {R : Result → Shared → Prop}
    (h0 : codeAny (model prog w) A (.compLoop (.ListComp elt [g0, ⟨t1, i1, [], 0⟩] scope pos) 1 it acc env) R s)
    (h : wpAny (model prog w) A (pyIter it) (fun it' s' => codeAny (model prog w) A (.compLoop (.ListComp elt [g0, ⟨t1, i1, [], 0⟩] scope pos) 1 it' acc env) R s')
      (notedBy (model prog w) A env fun x s' => R (.error x) s') s) :
    codeAny (model prog w) A (.compStart (.ListComp elt [g0, ⟨t1, i1, [], 0⟩] scope pos) 1 it acc env) R s := by
  refine codeAny_of_tree ?_
  show wpAny _ _ ((compStart (.ListComp elt [g0, ⟨t1, i1, [], 0⟩] scope pos) 1 it acc env).onRaise (fun x => do noteFrame x env; standAt theWindowsPlace)) _ _ s
  refine wpAny_notedAt ?_
  unfold compStart
  show wpAny _ _ (ask >>= _) _ _ s
  refine wpAny_bind (wpAny_askSetting (wpAny_ite ?_))
  split
  · first
      | exact wpAny_bind (wpAny_pure (wpAny_pure (And.intro rfl h0)))
      | exact wpAny_pure (And.intro rfl h0)
  · first
      | exact wpAny_bind (wpAny_rule (wpAny_bind (wpAny_standAt (wpAny_bind (wpAny_mono h (fun it' s' h' => wpAny_pure (And.intro rfl h')) fun _ _ x => x)))))
      | (refine wpAny_bind (wpAny_rule ?_); show wpAny _ _ (standAt i1.pos >>= _) _ _ s; exact wpAny_bind (wpAny_standAt (wpAny_bind (wpAny_mono h (fun it' s' h' => wpAny_pure (And.intro rfl h')) fun _ _ x => x))))

theorem inner_loop {x : Str} {px px2 : Pos} {i1 : Expr} {g0 : Comprehension} {scope : Scope} {cl : List (Str × Addr)} {pos : Pos} {R : Result → Shared → Prop} {I C D : Addr} {a : Int} {n : Nat} {ys : List Value} {m' : Str → Option Value}
    (hh : A.handled = none) (hkind : scope.kind = .function) (hx : scope.names.lookup x = some .local) (hd : (x == ("__debug__" : Str)) = false)
    (hst : IsRangeIter s.heap I a (n : Int) 1) (hD : s.heap.get? D = some (lst ys)) (hC : s.heap.Ns C m') (hIC : @Ne Nat I C) (hID : @Ne Nat I D) (hCD : @Ne Nat C D) (hsz : ys.length + n ≤ sizeLine)
    (h : ∀ h' tk ws m'', IntsAre ws (span a n) → h'.get? D = some (lst (ys ++ ws)) → h'.Ns C m'' → (∀ b o, b ≠ I → b ≠ C → b ≠ D → s.heap.get? b = some o → h'.get? b = some o) → R (.ok .next) { s with heap := h', toks := tk }) :
    codeAny (model prog w) A (.compLoop (.ListComp (.Name x px) [g0, ⟨.Name x px2, i1, [], 0⟩] scope pos) 1 (.ref I) (.ref D) (compEnvC scope cl C env)) R s := by
  refine letW (Expr.ListComp (.Name x px) [g0, ⟨.Name x px2, i1, [], 0⟩] scope pos) ?_
  intro ce
  show codeAny (model prog w) A (.compLoop ce 1 (.ref I) (.ref D) (compEnvC scope cl C env)) R s
  have W := range_walks (prog := prog) (w := w) (A := A) (I := I) hh a n
  refine codeAny_loop rfl (fun k s' => ∃ h' tk i ws m'', s' = { s with heap := h', toks := tk } ∧ i ≤ n ∧ k = n + 1 - i ∧ IsRangeIter h' I (a + (i : Nat) * 1) ((n : Int) - (i : Nat)) 1 ∧ IntsAre ws (span a i) ∧ h'.get? D = some (lst (ys ++ ws)) ∧ h'.Ns C m'' ∧
    (∀ b o, b ≠ I → b ≠ C → b ≠ D → s.heap.get? b = some o → h'.get? b = some o)) ?_ (n + 1) ⟨s.heap, s.toks, 0, [], m', rfl, Nat.zero_le _, rfl, by simpa using hst, .nil, by simpa using hD, hC, fun _ _ _ _ _ e => e⟩
  rintro k s' ⟨h', tk, i, ws, m'', rfl, hi, rfl, hst', hws, hD', hC', hk'⟩
  refine wpAny_noted (m := compTurn ce 1 (.ref I) (.ref D) (compEnvC scope cl C env)) (turn1 rfl ?_)
  by_cases hlt : i < n
  · refine W.item i _ _ _ hlt hst' fun v h₂ tk₂ hPv hst₂ hk₂ => ?_
    obtain ⟨t, rfl⟩ := hPv
    refine wpAny_bind (wpAny_of_eq (by rfl) ?_)
    refine wpAny_bind (wpAny_assign_Name (wpAny_storeName_local (lookup_relabel_local hx) (hC'.at' fun o e => hk₂ _ o (by simpa using Ne.symm hIC) e) (fun h₃ hn₃ hs₃ => ?_) (by simp [compEnvC, relabel, hkind])))
    refine wpAny_bind (wpAny_bind (wp_eq (eval_Name _ _ _ hd) ?_))
    refine wpAny_bind (wpAny_standAt (wpAny_loadName_local (v := .int (a + (i : Int)) t) hkind (lookup_relabel_local hx) hn₃ (if_pos rfl) ?_))
    have hD₃ : h₃.get? D = some (lst (ys ++ ws)) := hs₃.extBut _ _ (Ne.symm hCD) (hk₂ _ _ (by simpa using Ne.symm hID) hD')
    have hwl : ws.length = i := by have := hws.length; rwa [span_len] at this
    refine wpAny_bind (append_at (hsz := by show (ys ++ ws).toArray.size ≤ sizeLine; rw [List.size_toArray, List.length_append, hwl]; exact Nat.le_trans (by (first | lia | omega)) hsz) hD₃ fun h₅ hs₅ hD₅ => ?_)
    refine wpAny_pure (wpAny_pure ⟨rfl, n + 1 - (i + 1), by (first | lia | omega), h₅, _, i + 1, ws ++ [.int (a + (i : Int)) t], _, rfl, hlt, rfl, ?_, ?_, ?_, (hn₃.sameBut hs₅ hCD), fun b o b1 b2 b3 e => hs₅.extBut _ _ b3 (hs₃.extBut _ _ b2 (hk₂ _ _ (by simpa using b1) (hk' b o b1 b2 b3 e)))⟩)
    · exact (hs₅.extBut _ _ hID (hs₃.extBut _ _ hIC hst₂) : h₅.get? I = _)
    · rw [span_succ]; exact IntsAre.append hws (.cons _ _ .nil)
    · rw [hD₅, ← List.append_assoc]; exact congrArg some (lst_snoc _ _)
  · obtain rfl : i = n := Nat.le_antisymm hi (Nat.not_lt.mp hlt)
    refine W.done _ _ _ hst' fun h₂ tk₂ hk₂ => ?_
    exact wpAny_pure (h h₂ tk₂ ws m'' hws (hk₂ _ _ (by simpa using Ne.symm hID) hD') (hC'.at' fun o e => hk₂ _ o (by simpa using Ne.symm hIC) e) fun b o b1 b2 b3 e => hk₂ _ _ (by simpa using b1) (hk' b o b1 b2 b3 e))

/-- the turns of «for x, x₂ in a list of pairs, for y in a range» -/
noncomputable def Rest2 (prog : Program) (w : World) (A : Around) (h₀ : Heap) (L : Addr) (m : Str → Option Value) (env : Env) (i1 : Expr) (x x₂ : Str) (scope : Scope) (cl : List (Str × Addr)) (s : Shared) (P : Nat → Value → Prop) (Fin : List Value → Prop) (news : Led) : Nat → Nat → List Value → Prop
  | 0, _, ys => Fin ys
  | k + 1, i, ys => ∀ v, P i v → ∃ (t : Addr) (ot : Obj) (v₁ v₂ : Value) (nt : Nat) (a : Int) (n : Nat), v = .ref t ∧ (t, ot) ∈ news ∧ ot.cls = .type "tuple" ∧ ot.data = .seq #[v₁, v₂] nt ∧ ys.length + n ≤ sizeLine ∧
      (∀ I oI C oC D m₂ h tk (E' : Value → Shared → Prop), NsObj oC m₂ → m₂ x = some v₁ → m₂ x₂ = some v₂ → Fr h₀ L h m → News h₀ L h ((I, oI) :: (C, oC) :: (D, lst ys) :: news) → Off3 I C D news → ((@Ne Nat I C) ∧ (@Ne Nat I D) ∧ (@Ne Nat C D)) →
        wpAny (model prog w) A (eval i1 (compEnvC scope cl C env)) (fun xv s' => ∃ r h' tk' t1 t2 t3, xv = .ref r ∧ s' = { s with heap := h', toks := tk' } ∧ Fr h₀ L h' m ∧ News h₀ L h' ((I, oI) :: (C, oC) :: (D, lst ys) :: news) ∧ IsRange h' r a (a + (n : Int)) 1 t1 t2 t3 ∧ Builtin.Range.small a (a + (n : Int)) 1 = true) E' { s with heap := h, toks := tk }) ∧
      ∀ ws, IntsAre ws (span a n) → Rest2 prog w A h₀ L m env i1 x x₂ scope cl s P Fin news k (i + 1) (ys ++ ws)
theorem fr_of {h h' : Heap} {C D : Addr} (F : Fr h₀ L h m) (k : ∀ b o, b ≠ C → b ≠ D → h.get? b = some o → h'.get? b = some o) (hC : C ≠ L) (hD : D ≠ L) (hC₀ : h₀.get? C = none) (hD₀ : h₀.get? D = none) : Fr h₀ L h' m :=
  ⟨F.ns.at' fun o e => k _ _ (Ne.symm hC) (Ne.symm hD) e, fun b o e => k _ _ (fun q => by rw [q, hC₀] at e; cases e) (fun q => by rw [q, hD₀] at e; cases e) (F.keep b o e), F.above⟩
noncomputable def I2 (prog : Program) (w : World) (A : Around) (h₀ : Heap) (L : Addr) (m : Str → Option Value) (env : Env) (i1 : Expr) (x x₂ : Str) (scope : Scope) (cl : List (Str × Addr)) (s₂ : Shared) (its : Array Value) (Fin : List Value → Prop) (news : Led) (I ax C D : Addr) (k : Nat) (s' : Shared) : Prop :=
  ∃ h' tk i ys m', s' = { s₂ with heap := h', toks := tk } ∧ i ≤ its.size ∧ k = its.size + 1 - i ∧ h'.IsListIter I ax i ∧ Fr h₀ L h' m ∧ h'.Ns C m' ∧ News h₀ L h' ((D, lst ys) :: news) ∧
    Rest2 prog w A h₀ L m env i1 x x₂ scope cl s₂ (fun i v => its[i]? = some v) Fin news (its.size - i) i ys
theorem loop_2 {x x₂ y : Str} {px px₂ py py2 tp : Pos} {tk0} {iter i1 : Expr} {scope : Scope} {cl : List (Str × Addr)} {pos : Pos} {ax I C D : Addr} {its : Array Value} {news : Led} {n0 : Nat} {s₂ : Shared}
    {Fin : List Value → Prop} {R : Result → Shared → Prop} {h₁ : Heap} {tk₁ : Nat} {m₁ : Str → Option Value}
    (hh : A.handled = none) (hkind : scope.kind = .function) (hx : scope.names.lookup x = some .local) (hx₂ : scope.names.lookup x₂ = some .local) (hxx : x ≠ x₂) (hy : scope.names.lookup y = some .local) (hd : (y == ("__debug__" : Str)) = false)
    (hs : ∀ v e, foldedSetIterable i1 e v = pure v)
    (hm : (ax, listOf its n0) ∈ news) (hsz : its.size ≤ sizeLine) (hne : ax ≠ I)
    (F : Fr h₀ L h₁ m) (N : News h₀ L h₁ ((D, lst []) :: news)) (hIt : h₁.IsListIter I ax 0) (hCn : h₁.Ns C m₁) (off : Off3 I C D news) (hI₀ : h₀.get? I = none) (hC₀ : h₀.get? C = none) (hCI : I ≠ C) (hDI : I ≠ D) (hCD : C ≠ D) (hIL : L ≠ I) (hCL : C ≠ L)
    (T : Rest2 prog w A h₀ L m env i1 x x₂ scope cl s₂ (fun i v => its[i]? = some v) Fin news its.size 0 [])
    (hR : ∀ h tk m' ys, Fr h₀ L h m → News h₀ L h ((D, lst ys) :: news) → h.Ns C m' → Fin ys → R (.ok .next) { s₂ with heap := h, toks := tk }) :
    codeAny (model prog w) A (.compLoop (.ListComp (.Name y py) [⟨.Tuple [.Name x px, .Name x₂ px₂] tk0 tp, iter, [], 0⟩, ⟨.Name y py2, i1, [], 0⟩] scope pos) 0 (.ref I) (.ref D) (compEnvC scope cl C env)) R { s₂ with heap := h₁, toks := tk₁ } := by
  refine letW (Expr.ListComp (.Name y py) [⟨.Tuple [.Name x px, .Name x₂ px₂] tk0 tp, iter, [], 0⟩, ⟨.Name y py2, i1, [], 0⟩] scope pos) ?_
  intro ce
  refine letW (I2 prog w A h₀ L m env i1 x x₂ scope cl s₂ its Fin news I ax C D) ?_
  intro Inv
  show codeAny (model prog w) A (.compLoop ce 0 (.ref I) (.ref D) (compEnvC scope cl C env)) R { s₂ with heap := h₁, toks := tk₁ }
  have offm := off.mem
  have hDnews := fun p hp => (offm p hp).2.2
  have hDL : D ≠ L := (N _ List.mem_cons_self).2.1
  have hD₀ : h₀.get? D = none := (N _ List.mem_cons_self).2.2
  have W := Walks.list (prog := prog) (w := w) hh I ax hne its
  have isl : ∀ {h ys}, News h₀ L h ((D, lst ys) :: news) → h.IsList ax its := fun N => ⟨_, (N _ (List.mem_cons_of_mem _ hm)).1, rfl, n0, rfl⟩
  refine codeAny_loop rfl Inv ?_ (its.size + 1) ⟨h₁, tk₁, 0, [], m₁, rfl, Nat.zero_le _, rfl, hIt, F, hCn, N, T⟩
  rintro k s' ⟨h', tk, i, ys, m', rfl, hi, rfl, hit', F', hn', N', T'⟩
  refine wpAny_noted (m := compTurn ce 0 (.ref I) (.ref D) (compEnvC scope cl C env)) (turn0 rfl ?_)
  by_cases hlt : i < its.size
  · obtain ⟨j, hj⟩ : ∃ j, its.size - i = j + 1 := ⟨its.size - i - 1, by (first | lia | omega)⟩
    rw [hj] at T'
    refine W.item i _ _ _ hlt ⟨hit', isl N'⟩ fun v h₂ tk₂ hPv hst₂ hk₂ => ?_
    obtain ⟨t, ot, v₁, v₂, nt, a, n, rfl, hmt, hct, hdt, hln, T1, T2⟩ := T' v hPv
    have N₂ : News h₀ L h₂ ((D, lst ys) :: news) := news_but N' hk₂ fun p hp => by
      rcases List.mem_cons.mp hp with rfl | hp
      · exact Ne.symm hDI
      · exact (offm p hp).1
    have ht : IsTup h₂ t #[v₁, v₂] := ⟨ot, (N₂ _ (List.mem_cons_of_mem _ hmt)).1, hct, nt, hdt⟩
    refine wpAny_bind (wpAny_letOwnedTupleGo_listiter hst₂.1 ?_)
    refine wpAny_bind (assign_Tuple_tuple hh ht rfl rfl fun h₅ he => ?_)
    have he' : ∀ b o, h₂.get? b = some o → h₅.get? b = some o := fun b o e => he b o (Nat.ne_of_lt (Heap.lt_size e)) e
    refine assignInOrder_cons (wpAny_assign_Name (wpAny_storeName_local (lookup_relabel_local hx) ((hn'.at' fun o e => hk₂ _ o (by simpa using Ne.symm hCI) e).at' fun o e => he' _ o e) (fun h₆ hn₆ hs₆ => ?_) (by simp [compEnvC, relabel, hkind])))
    refine assignInOrder_cons (wpAny_assign_Name (wpAny_storeName_local (lookup_relabel_local hx₂) hn₆ (fun h₃ hn₃ hs₃ => ?_) (by simp [compEnvC, relabel, hkind])))
    refine assignInOrder_nil ?_
    have old3 : ∀ b o, b ≠ C → h₂.get? b = some o → h₃.get? b = some o := fun b o hb e => hs₃.extBut b o hb (hs₆.extBut b o hb (he' b o e))
    obtain ⟨oC, heC, hoC⟩ := ns_obj hn₃
    have hI3 : h₃.IsListIter I ax (i + 1) := let ⟨o, e, q⟩ := hst₂.1; ⟨o, old3 _ _ hCI e, q⟩
    obtain ⟨oI, heI, hqI⟩ := id hI3
    have F₃ : Fr h₀ L h₃ m := (((fr_but F' hk₂ hIL hI₀).keeps he').change hs₆ hCL hC₀).change hs₃ hCL hC₀
    have N₃ : News h₀ L h₃ ((I, oI) :: (C, oC) :: (D, lst ys) :: news) := fun p hp => by
      rcases List.mem_cons.mp hp with rfl | hp
      · exact ⟨heI, Ne.symm hIL, hI₀⟩
      · rcases List.mem_cons.mp hp with rfl | hp
        · exact ⟨heC, hCL, hC₀⟩
        · have z := N₂ p hp
          refine ⟨old3 _ _ ?_ z.1, z.2⟩
          rcases List.mem_cons.mp hp with rfl | hp
          · exact Ne.symm hCD
          · exact (offm p hp).2.1
    refine wpAny_bind (wpAny_mono (T1 I oI C oC D _ h₃ _ _ hoC (by simp [hxx]) (by simp) F₃ N₃ off ⟨hCI, hDI, hCD⟩) (fun xv s₄ h₄ => ?_) fun _ _ e => e)
    obtain ⟨r, h₄, tk₄, t1, t2, t3, rfl, rfl, F₄, N₄, hr, hsm⟩ := h₄
    have hrs : Builtin.Range.rangeSize a (a + (n : Int)) 1 = (n : Int) := by
      unfold Builtin.Range.rangeSize
      rw [if_pos (by decide)]
      split <;> (first | lia | omega)
    refine wpAny_bind (wpAny_standAt (wpAny_bind (wp_eq (hs _ _) (wpAny_pure (wpAny_bind (wpAny_holding (iter_range hr hsm hrs ?_)))))))
    have up : ∀ b o, h₄.get? b = some o → (h₄.push { cls := .type "range_iterator", data := .fields #[rawInt a, rawInt (n : Int), rawInt 1] }).get? b = some o := fun b o e => Heap.get?_push_of_some _ e
    have zC := (N₄ (C, oC) (List.mem_cons_of_mem _ List.mem_cons_self)).1
    have zD := (N₄ (D, lst ys) (List.mem_cons_of_mem _ (List.mem_cons_of_mem _ List.mem_cons_self))).1
    have zI := (N₄ (I, oI) List.mem_cons_self).1
    have nC : h₄.objs.size ≠ C := Ne.symm (Nat.ne_of_lt (Heap.lt_size zC))
    have nD : h₄.objs.size ≠ D := Ne.symm (Nat.ne_of_lt (Heap.lt_size zD))
    have key : ∀ (R' : Result → Shared → Prop), (∀ s', (∃ k', k' < its.size + 1 - i ∧ Inv k' s') → R' (.ok .next) s') →
        codeAny (model prog w) A (.compLoop ce 1 (.ref h₄.objs.size) (.ref D) (compEnvC scope cl C env)) R'
        { s₂ with heap := h₄.push { cls := .type "range_iterator", data := .fields #[rawInt a, rawInt (n : Int), rawInt 1] }, toks := tk₄ } := by
      intro R' hR'
      refine inner_loop (n := n) (a := a) (ys := ys) hh hkind hy hd (by simpa [IsRangeIter] using Heap.get?_push_size _ rfl) (up _ _ zD) ((hoC.ns zC).at' fun o e => up _ o e) nC nD hCD hln ?_
      intro h₇ tk₇ ws m₇ hws hD₇ hC₇ hk₇
      have back : ∀ b o, b ≠ C → b ≠ D → h₄.get? b = some o → h₇.get? b = some o := fun b o b2 b3 e => hk₇ _ _ (Nat.ne_of_lt (Heap.lt_size e)) b2 b3 (up _ _ e)
      refine hR' _ ⟨its.size + 1 - (i + 1), by (first | lia | omega), h₇, tk₇, i + 1, ys ++ ws, m₇, rfl, hlt, rfl, ⟨oI, back _ _ hCI hDI zI, hqI⟩, fr_of F₄ back hCL hDL hC₀ hD₀, hC₇, fun p hp => ?_, ?_⟩
      · rcases List.mem_cons.mp hp with rfl | hp
        · exact ⟨hD₇, hDL, hD₀⟩
        · have z := N₄ p (List.mem_cons_of_mem _ (List.mem_cons_of_mem _ (List.mem_cons_of_mem _ hp)))
          exact ⟨back _ _ (offm p hp).2.1 (offm p hp).2.2 z.1, z.2⟩
      · rw [show its.size - (i + 1) = j by (first | lia | omega)]; exact T2 ws hws
    refine wpAny_bind (own_none ?_)
    refine start1 (key _ fun s' hs' => ?_) (wpAny_pyIter_rangeiter (by simpa [IsRangeIter] using Heap.get?_push_size _ rfl) (key _ fun s' hs' => ?_))
    · exact wpAny_pure ⟨rfl, hs'⟩
    · exact wpAny_pure ⟨rfl, hs'⟩
  · obtain rfl : i = its.size := Nat.le_antisymm hi (Nat.not_lt.mp hlt)
    rw [Nat.sub_self] at T'
    refine W.done _ _ _ ⟨hit', isl N'⟩ fun h₂ tk₂ hk₂ => ?_
    exact wpAny_pure (hR h₂ tk₂ m' ys (fr_but F' hk₂ hIL hI₀) (news_but N' hk₂ fun p hp => by
      rcases List.mem_cons.mp hp with rfl | hp
      · exact Ne.symm hDI
      · exact (offm p hp).1) (hn'.at' fun o e => hk₂ _ o (by simpa using Ne.symm hCI) e) T')

noncomputable def Src2 (prog : Program) (w : World) (A : Around) (h₀ : Heap) (L : Addr) (m : Str → Option Value) (env : Env) (i1 : Expr) (x x₂ : Str) (scope : Scope) (cl : List (Str × Addr)) (z : Str) (Q : Flow → Shared → Prop) (xv : Value) (s₁ : Shared) : Prop :=
  ∃ ax its n0 news, xv = .ref ax ∧ A.handled = none ∧ Fr h₀ L s₁.heap m ∧ News h₀ L s₁.heap news ∧ (ax, ({ cls := .type "list", data := .seq its n0 } : Obj)) ∈ news ∧ its.size ≤ sizeLine ∧
    ∀ s₂ : Shared, (∃ h, s₂ = { s₁ with heap := h }) → Rest2 prog w A h₀ L m env i1 x x₂ scope cl s₂ (fun i v => its[i]? = some v)
      (fun ys => ∀ D h tk, Fr h₀ L h (fun y => if y = z then some (.ref D) else m y) → News h₀ L h ((D, lst ys) :: news) → Off1 D news → Q .next { s₂ with heap := h, toks := tk }) news its.size 0 []
theorem Src2.intro {i1 : Expr} {x x₂ z : Str} {scope : Scope} {cl : List (Str × Addr)} {Q : Flow → Shared → Prop} {ax : Addr} {vs : List Value} {k : Nat} {news all : Led} {s₁ : Shared}
    (hh : A.handled = none) (F : Fr h₀ L s₁.heap m) (N : News h₀ L s₁.heap all) (hs : ∀ p ∈ news, p ∈ all) (hm : (ax, PySem.W.listOf vs.toArray k) ∈ news) (hsz : vs.length ≤ sizeLine)
    (h : ∀ g, Rest2 prog w A h₀ L m env i1 x x₂ scope cl { s₁ with heap := g } (fun i v => vs[i]? = some v)
      (fun ys => ∀ D h tk, Fr h₀ L h (fun y => if y = z then some (.ref D) else m y) → News h₀ L h ((D, lst ys) :: news) → Off1 D news → Q .next { s₁ with heap := h, toks := tk }) news vs.length 0 []) :
    Src2 prog w A h₀ L m env i1 x x₂ scope cl z Q (.ref ax) s₁ := ⟨ax, vs.toArray, k, news, rfl, hh, F, fun p hp => N p (hs p hp), hm, by simpa using hsz, fun _ ⟨g, e⟩ => e ▸ by simpa using h g⟩
theorem Assign_Comp2 {x x₂ y z : Str} {px px₂ py py2 tp pz : Pos} {tk0} {iter i1 : Expr} {scope : Scope} {cl : List (Str × Addr)} {pos spos : Pos} {Q : Flow → Shared → Prop} (F₀ : Fr h₀ L s.heap m) (hLe : env.locals = L)
    (hsw : swapsWith (.ListComp (.Name y py) [⟨.Tuple [.Name x px, .Name x₂ px₂] tk0 tp, iter, [], 0⟩, ⟨.Name y py2, i1, [], 0⟩] scope pos) (some (.Name z pz)) spos.line env = pure true)
    (hclos : closureFor scope env = pure cl) (hcell : ∀ z ∈ scope.names, z.2 ≠ .cell) (hkind : scope.kind = .function)
    (hnames : ∀ z ∈ scope.names, z.2 = .local → scope.names.lookup z.1 = some .local) (hx : scope.names.lookup x = some .local) (hx₂ : scope.names.lookup x₂ = some .local) (hxx : x ≠ x₂) (hy : scope.names.lookup y = some .local) (hd : (y == ("__debug__" : Str)) = false)
    (hz : env.kindOf z = some .local) (hp : (env.scope.kind == .class || (env.scope.kind == .module && env.locals != env.globals)) = false)
    (h : wpAny (model prog w) A (eval iter env) (Src2 prog w A h₀ L m env i1 x x₂ scope cl z Q) E s)
    (hs : ∀ v, foldedSetIterable iter env v = pure v := by intro _; rfl) (hs1 : ∀ v e, foldedSetIterable i1 e v = pure v := by intro _ _; rfl) :
    wpAny (model prog w) A (exec (.Assign [.Name z pz] (.ListComp (.Name y py) [⟨.Tuple [.Name x px, .Name x₂ px₂] tk0 tp, iter, [], 0⟩, ⟨.Name y py2, i1, [], 0⟩] scope pos) spos) env) Q E s := by
  subst hLe
  rw [exec_Assign_Name_used _ _ _ _ hsw]
  refine wpAny_bind (wpAny_standAt (wpAny_bind ?_))
  show wpAny _ A (do let _ ← comprehension (.ListComp (.Name y py) [⟨.Tuple [.Name x px, .Name x₂ px₂] tk0 tp, iter, [], 0⟩, ⟨.Name y py2, i1, [], 0⟩] scope pos) scope env _ (newList []) false (eval iter env) (some (assign (.Name z pz) env))) _ _ s
  refine wpAny_bind (wpAny_mono (wpAny_comprehension_free (use := some (assign (.Name z pz) env)) (Q := fun _ s' => Q .next s') rfl hs hclos hkind hnames
    (wpAny_mono h (fun xv s₁ h₁ => ?_) fun _ _ e => e)) (fun _ s' hq => wpAny_pure (wpAny_pure hq)) fun _ _ e => e)
  obtain ⟨ax, its, n0, news, rfl, hh, F, N, hm, hsz, R⟩ := h₁
  have hl : s₁.heap.IsList ax its := ⟨_, (N _ hm).1, rfl, n0, rfl⟩
  have hlt : ax < s₁.heap.objs.size := Heap.lt_size (N _ hm).1
  refine wpAny_pyIter_list hl ?_
  refine wpAny_newObj_type (wpAny_newFunctionEnv hcell (by intro y hy; simp at hy) (fun h₁ hns₁ hsb₁ => ?_) hkind)
  dsimp only at hns₁ hsb₁ ⊢
  generalize hH1 : s₁.heap.push { cls := .type "list_iterator", data := .fields #[.ref ax, .int 0 0] } = H1 at hns₁ hsb₁ ⊢
  generalize hH2 : H1.push { cls := .type "list", dict := none, data := .seq ([] : List Value).toArray } = H2 at hns₁ hsb₁ ⊢
  have sI : H1.objs.size = s₁.heap.objs.size + 1 := by rw [← hH1, Heap.size_push]
  have sD : H2.objs.size = s₁.heap.objs.size + 2 := by rw [← hH2, Heap.size_push, sI]
  have up1 : ∀ b o, s₁.heap.get? b = some o → H1.get? b = some o := fun b o e => hH1 ▸ Heap.get?_push_of_some _ e
  have up2 : ∀ b o, H1.get? b = some o → H2.get? b = some o := fun b o e => hH2 ▸ Heap.get?_push_of_some _ e
  have up3 : ∀ b o, b < H2.objs.size → H2.get? b = some o → h₁.get? b = some o := fun b o hb e => hsb₁.extBut b o (Nat.ne_of_lt hb) (Heap.get?_push_of_some _ e)
  have gI : h₁.get? s₁.heap.objs.size = some { cls := .type "list_iterator", data := .fields #[.ref ax, .int 0 0] } := up3 _ _ (by rw [sD]; exact Nat.lt_succ_of_lt (Nat.lt_succ_self _)) (up2 _ _ (hH1 ▸ Heap.get?_push_size _ rfl))
  have gD : h₁.get? H1.objs.size = some (lst []) := up3 _ _ (by rw [sI, sD]; exact Nat.lt_succ_self _) (hH2 ▸ Heap.get?_push_size _ rfl)
  have old : ∀ b o, s₁.heap.get? b = some o → h₁.get? b = some o := fun b o e => up3 _ _ (by have := Heap.lt_size e; rw [sD]; exact Nat.lt_succ_of_lt (Nat.lt_succ_of_lt this)) (up2 _ _ (up1 _ _ e))
  have fresh₀ : ∀ a, s₁.heap.objs.size ≤ a → h₀.get? a = none := fun a ha => by
    cases e : h₀.get? a with
    | none => rfl
    | some o' => exact absurd (Heap.lt_size (F.keep a o' e)) (Nat.not_lt.mpr ha)
  have below : ∀ b, b < s₁.heap.objs.size → b ≠ s₁.heap.objs.size ∧ b ≠ H1.objs.size ∧ b ≠ H2.objs.size := fun b hb => ⟨Nat.ne_of_lt hb, by rw [sI]; exact Nat.ne_of_lt (Nat.lt_succ_of_lt hb), by rw [sD]; exact Nat.ne_of_lt (Nat.lt_succ_of_lt (Nat.lt_succ_of_lt hb))⟩
  have hL := below _ F.ns.lt
  have N₁ : News h₀ env.locals h₁ ((H1.objs.size, lst []) :: news) := fun p hp => by
    rcases List.mem_cons.mp hp with rfl | hp
    · exact ⟨gD, Ne.symm hL.2.1, fresh₀ _ (by rw [sI]; exact Nat.le_succ _)⟩
    · exact ⟨old _ _ (N p hp).1, (N p hp).2⟩
  have off : Off3 s₁.heap.objs.size H2.objs.size H1.objs.size news := Off3.of fun p hp => by
    have b := below _ (Heap.lt_size (N p hp).1)
    exact ⟨b.1, b.2.2, b.2.1⟩
  have key : ∀ s₃ : Shared, s₃ = { s₁ with heap := h₁, toks := s₁.toks + ([] : List (Str × Value)).length } →
      codeAny (model prog w) A (.compLoop (.ListComp (.Name y py) [⟨.Tuple [.Name x px, .Name x₂ px₂] tk0 tp, iter, [], 0⟩, ⟨.Name y py2, i1, [], 0⟩] scope pos) 0 (.ref s₁.heap.objs.size) (.ref H1.objs.size) (compEnvC scope cl H2.objs.size env))
        (compPost (model prog w) A E (some (assign (.Name z pz) env)) (fun _ s' => Q .next s') (.ref H1.objs.size) H2.objs.size) s₃ := by
    rintro s₃ rfl
    refine loop_2 (its := its) (news := news) (s₂ := s₁) hh hkind hx hx₂ hxx hy hd hs1 hm hsz (Nat.ne_of_lt hlt) (F.keeps old) N₁ ⟨_, gI, rfl, rfl⟩ hns₁ off (fresh₀ _ (Nat.le_refl _)) (fresh₀ _ (by rw [sD]; exact Nat.le_add_right _ _)) (by rw [sD]; exact Nat.ne_of_lt (Nat.lt_succ_of_lt (Nat.lt_succ_self _))) (by rw [sI]; exact Nat.ne_of_lt (Nat.lt_succ_self _)) (by rw [sI, sD]; exact Nat.ne_of_gt (Nat.lt_succ_self _)) hL.1 (Ne.symm hL.2.2) (R _ ⟨_, rfl⟩) ?_
    intro h' tk m' ys F' N' hn' fin
    show wpAny _ A (assign (.Name z pz) env (.ref H1.objs.size)) _ _ _
    refine wpAny_assign_Name (wpAny_storeName_local hz F'.ns (fun h₂ hn₂ hs₂ => ?_) hp)
    have hL₀ : h₀.get? env.locals = none := Heap.get?_none_of_le F'.above
    have F₂ : Fr h₀ env.locals h₂ (fun y => if y = z then some (.ref H1.objs.size) else m y) := ⟨hn₂, fun b o e => hs₂.extBut b o (fun q => by rw [q, hL₀] at e; cases e) (F'.keep b o e), F'.above⟩
    refine ⟨m', hn'.sameBut hs₂ (Ne.symm hL.2.2), fun h'' hs'' => fin _ h'' _ (F₂.change hs'' (Ne.symm hL.2.2) (fresh₀ _ (by rw [sD]; exact Nat.le_add_right _ _))) (fun p hp => ?_) off.one⟩
    have zz : h₂.get? p.1 = some p.2 := hs₂.extBut _ _ (N' p hp).2.1 (N' p hp).1
    refine ⟨hs''.extBut _ _ ?_ zz, (N' p hp).2⟩
    rcases List.mem_cons.mp hp with rfl | hp
    · show H1.objs.size ≠ _; rw [sI, sD]; exact Nat.ne_of_lt (Nat.lt_succ_self _)
    · exact (off.mem p hp).2.1
  exact codeAny_compStart_list (key _ rfl) (wpAny_pyIter_listiter ⟨_, gI, rfl, rfl⟩ (key _ rfl))
end
end Mine
end

section
open PySem PySem.W PyProof.Rows PySem.Calls
set_option maxRecDepth 100000
namespace Mine
section
variable {prog : Program} {w : World} {A : Around} {E : Value → Shared → Prop} {s : Shared} {h₀ : Heap} {L : Addr} {m : Str → Option Value} {news : Led}
theorem listR {r : Addr} {a b : Int} {t u v : Tok} {Q : Value → Shared → Prop} (hh : A.handled = none) (F : Fr h₀ L s.heap m) (N : News h₀ L s.heap news) (hr : IsRange s.heap r a b 1 t u v)
    (ha : -1000 ≤ a ∧ a ≤ 1000 ∧ -1000 ≤ b ∧ b ≤ 1000)
    (h : ∀ (D : Addr) c h' tk (vs : List Value), Fr h₀ L h' m → News h₀ L h' ((D, listOf vs.toArray c) :: news) → (∀ q ∈ news, q.1 < D) → IntsAre vs (span a (b - a).toNat) → Q (.ref D) { s with heap := h', toks := tk }) :
    wpAny (model prog w) A (call (.type "list") [.ref r]) Q E s :=
  kll_range hh F N hr (range_sm ha.1 ha.2.1 ha.2.2.1 ha.2.2.2) (range_sz a b) (by (first | lia | omega)) fun D us c h' tk F' N' l hi => h D c h' tk us F' N' l hi
theorem int_mem {ns : List Int} {k : Int} : Dat.int k ∈ ns.map Dat.int ↔ k ∈ ns := by
  rw [List.mem_map]
  constructor
  · rintro ⟨a, ha, e⟩; cases e; exact ha
  · intro h; exact ⟨k, h, rfl⟩
theorem dec_mem {ns : List Int} {k : Int} (i : Decidable (Dat.int k ∈ ns.map Dat.int)) : @decide _ i = decide (k ∈ ns) := by
  by_cases hk : k ∈ ns
  · rw [decide_eq_true hk]; exact decide_eq_true (int_mem.mpr hk)
  · rw [decide_eq_false hk]; exact decide_eq_false fun x => hk (int_mem.mp x)
theorem ints_ok {ns : List Int} : ∀ d ∈ ns.map Dat.int, kqdOk 8 d = true := fun d h => by
  obtain ⟨a, _, rfl⟩ := List.mem_map.mp h; rfl
theorem inI {l : Addr} {vs : List Value} {n : Nat} {ns : List Int} {k : Int} {t : Tok} {Q : Value → Shared → Prop} (N : News h₀ L s.heap news) (hl : (l, listOf vs.toArray n) ∈ news) (hi : IntsAre vs ns) (hu : A.units + 64 < cLine)
    (h : Q (.bool (decide (k ∈ ns))) s) : wpAny (model prog w) A (compareOp .In (.int k t) (.ref l)) Q E s := by
  refine kqd_isIn N hl rfl rfl (ints_dat (I := news) hi) (fun p h => h) (DatIn.int (news := news) k t) (fun p h => h) ints_ok rfl hu ?_
  rw [dec_mem]
  exact h
theorem notinI {l : Addr} {vs : List Value} {n : Nat} {ns : List Int} {k : Int} {t : Tok} {Q : Value → Shared → Prop} (N : News h₀ L s.heap news) (hl : (l, listOf vs.toArray n) ∈ news) (hi : IntsAre vs ns) (hu : A.units + 64 < cLine)
    (h : Q (.bool (decide (k ∉ ns))) s) : wpAny (model prog w) A (compareOp .NotIn (.int k t) (.ref l)) Q E s := by
  refine kqd_notIn N hl rfl rfl (ints_dat (I := news) hi) (fun p h => h) (DatIn.int (news := news) k t) (fun p h => h) ints_ok rfl hu ?_
  rw [dec_mem, show (!decide (k ∈ ns)) = decide (k ∉ ns) from (decide_not).symm]
  exact h
theorem maxL {l : Addr} {vs : List Value} {n : Nat} {ns : List Int} {Q : Value → Shared → Prop} (hh : A.handled = none) (F : Fr h₀ L s.heap m) (N : News h₀ L s.heap news) (hl : (l, listOf vs.toArray n) ∈ news) (hi : IntsAre vs ns) (hne : 0 < ns.length)
    (h : ∀ h' M (t : Tok) tk, Fr h₀ L h' m → News h₀ L h' news → M ∈ ns → (∀ a, a ∈ ns → a ≤ M) → Q (.int M t) { s with heap := h', toks := tk }) :
    wpAny (model prog w) A (call (.builtin "max") [.ref l]) Q E s := max_list_N hh F N (isL N hl) hi hne h
end
theorem span_mem {a x : Int} {n : Nat} : x ∈ span a n ↔ a ≤ x ∧ x < a + n := by
  simp only [span, List.mem_map, List.mem_range]
  constructor
  · rintro ⟨i, h, rfl⟩; (first | lia | omega)
  · rintro ⟨h1, h2⟩; exact ⟨(x - a).toNat, by (first | lia | omega), by (first | lia | omega)⟩
theorem span_sorted (a : Int) (n : Nat) : (span a n).Pairwise (· < ·) := by
  rw [span, List.pairwise_map]
  exact List.pairwise_lt_range.imp fun h => by (first | lia | omega)
theorem rng_span (n : Nat) : rng n = span 0 n := by
  unfold rng span
  exact List.map_congr_left fun i _ => by show (Int.ofNat i) = 0 + (i : Int); rw [Int.zero_add]; rfl
theorem lt_ext {xs ys : List Int} (hx : xs.Pairwise (· < ·)) (hy : ys.Pairwise (· < ·)) (e : ∀ x, x ∈ xs ↔ x ∈ ys) : xs = ys := by
  have nx : xs.Nodup := hx.imp fun h => Int.ne_of_lt h
  have ny : ys.Nodup := hy.imp fun h => Int.ne_of_lt h
  have p : xs.Perm ys := (List.perm_ext_iff_of_nodup nx ny).mpr e
  exact sorted_eq p (hx.imp fun h => Int.le_of_lt h) (hy.imp fun h => Int.le_of_lt h)
noncomputable def flat (ps : List P2) : List Int := ps.flatMap fun p => span p.1 (p.2 + 1 - p.1).toNat
theorem flat_snoc (ps : List P2) (p : P2) : flat (ps ++ [p]) = flat ps ++ span p.1 (p.2 + 1 - p.1).toNat := by simp [flat]
theorem flat_mem {ps : List P2} {x : Int} : x ∈ flat ps ↔ InR ps x := by
  unfold flat InR
  simp only [List.mem_flatMap, span_mem]
  constructor
  · rintro ⟨p, hp, h1, h2⟩; exact ⟨p, hp, h1, by (first | lia | omega)⟩
  · rintro ⟨p, hp, h1, h2⟩; exact ⟨p, hp, h1, by (first | lia | omega)⟩
theorem InR.rev {ps : List P2} {x : Int} : InR ps.reverse x ↔ InR ps x := by simp [InR]
theorem flat_sorted {ps : List P2} (c : Canon ps) : (flat ps.reverse).Pairwise (· < ·) := by
  induction ps with
  | nil => exact List.Pairwise.nil
  | cons p ps ih =>
    rw [List.reverse_cons, flat_snoc, List.pairwise_append]
    refine ⟨ih c.2.c, span_sorted _ _, fun x hx y hy => ?_⟩
    have h1 := c.2.lt (InR.rev.mp (flat_mem.mp hx))
    have h2 := (span_mem.mp hy).1
    (first | lia | omega)
/-- what a sender noted is what was told above the least number out -/
theorem SInv.noted {M : Nat} {wss a} {k : Int} (h : SInv M wss a) (g : ∀ ws ∈ wss, Good M ws) (hk : IsLeast a.n a.sent k) : flat a.ack.reverse = (span k (M - k).toNat).filter fun x => told wss x := by
  obtain ⟨k', hk', hm⟩ := h.ack
  obtain rfl : k = k' := hk.uniq hk'
  refine lt_ext (flat_sorted h.can) ((span_sorted _ _).filter _) fun x => ?_
  rw [flat_mem, InR.rev, hm, List.mem_filter, span_mem]
  constructor
  · rintro ⟨h1, h2⟩
    obtain ⟨ws, hw, hi⟩ := told_mem.mp h1
    have := ((g ws hw).2 x hi).2
    exact ⟨⟨h2, by (first | lia | omega)⟩, h1⟩
  · rintro ⟨⟨h1, h2⟩, h3⟩; exact ⟨h3, h1⟩
end Mine
end

section
open PySem PySem.W PyProof.Rows PySem.Calls
set_option maxRecDepth 100000
namespace Mine
inductive MarksIn (I : Led) : Value → Int → Int → Int → Prop
  | none {e1 e2 e3 : Int} : e1 + e2 + e3 ≤ 0 → MarksIn I .none e1 e2 e3
  | tup {a : Addr} {t1 t2 t3 : Tok} {n : Nat} {e1 e2 e3 : Int} : 0 < e1 + e2 + e3 → (a, ({ cls := .type "tuple", data := .seq [.int e1 t1, .int e2 t2, .int e3 t3].toArray n } : Obj)) ∈ I → MarksIn I (.ref a) e1 e2 e3
theorem MarksIn.mono {I J : Led} {v a b c} (h : MarksIn I v a b c) (hs : ∀ p ∈ I, p ∈ J) : MarksIn J v a b c := by
  cases h with
  | none h => exact .none h
  | tup h k => exact .tup h (hs _ k)
noncomputable def rcvStep (a : RcvA) (n : Int) : RcvA := ⟨addRange a.rcv n n, some (omax a.ls n), a.e1 + if n % 4 = 2 then 1 else 0, a.e2 + if n % 4 = 1 then 1 else 0, a.e3 + if n % 4 = 3 then 1 else 0⟩
noncomputable def EcEnd (h₀ : Heap) (L : Addr) (m : Str → Option Value) (s : Shared) (a : Addr × Obj) (ec : Addr) (rest : Led) (q1 q2 q3 : Int) (f : Flow) (s' : Shared) : Prop :=
  f = .next ∧ ∃ h' tk' t1 t2 t3 n, s' = { s with heap := h', toks := tk' } ∧ Fr h₀ L h' m ∧ News h₀ L h' (a :: (ec, listOf [.int q1 t1, .int q2 t2, .int q3 t3].toArray n) :: rest)
theorem EcEnd.intro {h₀ : Heap} {L : Addr} {m : Str → Option Value} {s : Shared} {a : Addr × Obj} {ec : Addr} {rest : Led} {q1 q2 q3 d1 d2 d3 : Int} {h' : Heap} {tk' : Nat} {t1 t2 t3 : Tok} {n : Nat} (F' : Fr h₀ L h' m) (N' : News h₀ L h' (a :: (ec, listOf [.int d1 t1, .int d2 t2, .int d3 t3].toArray n) :: rest)) (e1 : d1 = q1) (e2 : d2 = q2) (e3 : d3 = q3) :
    EcEnd h₀ L m s a ec rest q1 q2 q3 .next { s with heap := h', toks := tk' } := by
  subst e1; subst e2; subst e3
  exact ⟨rfl, h', tk', t1, t2, t3, n, rfl, F', N'⟩
theorem ec_join {prog : Program} {w : World} {A : Around} {E : Value → Shared → Prop} {s : Shared} {h₀ : Heap} {L ec : Addr} {m : Str → Option Value} {a : Addr × Obj} {o : Obj} {rest : Led} {c : Sem Flow} {Q : Flow → Shared → Prop} (q1 q2 q3 : Int) (F : Fr h₀ L s.heap m) (N : News h₀ L s.heap (a :: (ec, o) :: rest))
    (h : wpAny (model prog w) A c (EcEnd h₀ L m s a ec rest q1 q2 q3) E s)
    (k : ∀ h' tk' t1 t2 t3 n, Fr h₀ L h' m → News h₀ L h' (a :: (ec, listOf [.int q1 t1, .int q2 t2, .int q3 t3].toArray n) :: rest) → Q .next { s with heap := h', toks := tk' }) : wpAny (model prog w) A c Q E s := by
  refine wpAny_mono h (fun f s' p => ?_) fun _ _ e => e
  obtain ⟨rfl, h', tk', t1, t2, t3, n, rfl, F', N'⟩ := p
  exact k h' tk' t1 t2 t3 n F' N'
end Mine
end

section
open PySem PySem.W PyProof.Rows
namespace Mine
/-! the plain law: receivers -/
noncomputable def rcvFold (cs : List Int) : RcvA := cs.foldl rcvStep ⟨[], none, 0, 0, 0⟩
theorem rcvFold_snoc (cs : List Int) (x : Int) : rcvFold (cs ++ [x]) = rcvStep (rcvFold cs) x := by
  unfold rcvFold; rw [List.foldl_append]; rfl
theorem rcvFold_take {cs : List Int} {i : Nat} {x : Int} (h : cs[i]? = some x) : rcvFold (cs.take (i + 1)) = rcvStep (rcvFold (cs.take i)) x := by
  rw [take_succ_snoc h, rcvFold_snoc]
theorem list_snoc_ind {α : Type} {P : List α → Prop} (h0 : P []) (h1 : ∀ l a, P l → P (l ++ [a])) : ∀ l, P l := fun l => by
  have : ∀ n (l : List α), l.length = n → P l := by
    intro n
    induction n with
    | zero => intro l h; rw [List.length_eq_zero_iff.mp h]; exact h0
    | succ n ih =>
      intro l h
      have hne : l ≠ [] := by intro e; rw [e] at h; simp at h
      rw [← List.dropLast_concat_getLast hne]
      exact h1 _ _ (ih _ (by rw [List.length_dropLast, h]; rfl))
  exact this _ l rfl
theorem rcvFold_rcv (cs : List Int) : Canon (rcvFold cs).rcv ∧ ∀ x, InR (rcvFold cs).rcv x ↔ x ∈ cs := by
  refine list_snoc_ind (P := fun cs => Canon (rcvFold cs).rcv ∧ ∀ x, InR (rcvFold cs).rcv x ↔ x ∈ cs) ⟨trivial, fun x => ⟨fun h => absurd h InR.nil, fun h => by simp at h⟩⟩ ?_ cs
  rintro l a ⟨h1, h2⟩
  rw [rcvFold_snoc]
  refine ⟨addRange_canon h1 (Int.le_refl a), fun x => ?_⟩
  show InR (addRange _ a a) x ↔ _
  rw [addRange_mem h1 (Int.le_refl a), h2, List.mem_append, List.mem_singleton]
  constructor
  · rintro (h | h)
    · exact .inl h
    · exact .inr (by (first | lia | omega))
  · rintro (h | h)
    · exact .inl h
    · exact .inr (by (first | lia | omega))
theorem rcvFold_ls (cs : List Int) : LaOK (fun x => decide (x ∈ cs)) (rcvFold cs).ls := by
  refine list_snoc_ind (P := fun cs => LaOK (fun x => decide (x ∈ cs)) (rcvFold cs).ls) (fun x => by simp) ?_ cs
  intro l a h
  rw [rcvFold_snoc]
  show LaOK _ (some (omax (rcvFold l).ls a))
  cases hla : (rcvFold l).ls with
  | none =>
    rw [hla] at h
    have h' : ∀ x, x ∉ l := fun x hx => by have := h x; simp [hx] at this
    refine ⟨by simp [omax], fun x hx => ?_⟩
    simp only [decide_eq_true_eq, List.mem_append, List.mem_singleton] at hx
    rcases hx with hx | hx
    · exact absurd hx (h' x)
    · rw [hx]; exact Int.le_refl _
  | some j =>
    rw [hla] at h
    obtain ⟨h1, h2⟩ := h
    simp only [decide_eq_true_eq] at h1 h2
    by_cases hj : j < a
    · rw [← omax_yes hj]
      refine ⟨by simp, fun x hx => ?_⟩
      simp only [decide_eq_true_eq, List.mem_append, List.mem_singleton] at hx
      rcases hx with hx | hx
      · have := h2 x hx; (first | lia | omega)
      · (first | lia | omega)
    · rw [← omax_no hj]
      refine ⟨by simp [h1], fun x hx => ?_⟩
      simp only [decide_eq_true_eq, List.mem_append, List.mem_singleton] at hx
      rcases hx with hx | hx
      · exact h2 x hx
      · (first | lia | omega)
theorem rcvFold_e (cs : List Int) : (rcvFold cs).e1 = ((cs.filter fun x => decide (x % 4 = 2)).length : Int) ∧ (rcvFold cs).e2 = ((cs.filter fun x => decide (x % 4 = 1)).length : Int) ∧ (rcvFold cs).e3 = ((cs.filter fun x => decide (x % 4 = 3)).length : Int) := by
  refine list_snoc_ind (P := fun cs => (rcvFold cs).e1 = ((cs.filter fun x => decide (x % 4 = 2)).length : Int) ∧ (rcvFold cs).e2 = ((cs.filter fun x => decide (x % 4 = 1)).length : Int) ∧ (rcvFold cs).e3 = ((cs.filter fun x => decide (x % 4 = 3)).length : Int)) ⟨rfl, rfl, rfl⟩ ?_ cs
  rintro l a ⟨h1, h2, h3⟩
  rw [rcvFold_snoc]
  refine ⟨?_, ?_, ?_⟩ <;> simp only [rcvStep, List.filter_append, List.length_append, h1, h2, h3, List.filter_cons, List.filter_nil] <;> split <;> simp_all
theorem rcvFold_perm {cs ds : List Int} (h : cs.Perm ds) : rcvFold cs = rcvFold ds := by
  obtain ⟨c1, m1⟩ := rcvFold_rcv cs
  obtain ⟨c2, m2⟩ := rcvFold_rcv ds
  have er : (rcvFold cs).rcv = (rcvFold ds).rcv := canon_ext _ _ c1 c2 fun x => by rw [m1, m2, h.mem_iff]
  have el : (rcvFold cs).ls = (rcvFold ds).ls := by
    refine LaOK.uniq (rcvFold_ls cs) ?_
    have : (fun x => decide (x ∈ cs)) = fun x => decide (x ∈ ds) := funext fun x => by simp only [h.mem_iff]
    rw [this]; exact rcvFold_ls ds
  obtain ⟨a1, a2, a3⟩ := rcvFold_e cs
  obtain ⟨b1, b2, b3⟩ := rcvFold_e ds
  have e1 : (rcvFold cs).e1 = (rcvFold ds).e1 := by rw [a1, b1, (h.filter _).length_eq]
  have e2 : (rcvFold cs).e2 = (rcvFold ds).e2 := by rw [a2, b2, (h.filter _).length_eq]
  have e3 : (rcvFold cs).e3 = (rcvFold ds).e3 := by rw [a3, b3, (h.filter _).length_eq]
  generalize rcvFold cs = a at *
  generalize rcvFold ds = b at *
  obtain ⟨r, l, x, y, z⟩ := a
  obtain ⟨r', l', x', y', z'⟩ := b
  dsimp only at er el e1 e2 e3
  subst er; subst el; subst e1; subst e2; subst e3; rfl
theorem rcvFold_good {M : Nat} {cs : List Int} (h : ∀ x ∈ cs, 0 ≤ x ∧ x < M) : Good M (rcvFold cs).rcv :=
  ⟨(rcvFold_rcv cs).1, fun x hx => h x (((rcvFold_rcv cs).2 x).mp hx)⟩
theorem Good.take {M : Nat} {ws : List P2} (h : Good M ws) (k : Nat) : Good M (ws.take k) := ⟨h.1.take k, fun x hx => h.2 x hx.take⟩
theorem Good.len {M : Nat} {ws : List P2} (h : Good M ws) : ws.length ≤ M + 1 := by have := h.1.len h.2; (first | lia | omega)
theorem rcvFold_ne {cs : List Int} (h : 0 < cs.length) : 0 < (rcvFold cs).rcv.length := by
  cases cs with
  | nil => simp at h
  | cons a l =>
    have : InR (rcvFold (a :: l)).rcv a := ((rcvFold_rcv _).2 a).mpr (.head _)
    obtain ⟨p, hp, _⟩ := this
    exact List.length_pos_of_mem hp
theorem rcvFold_ls_ne {cs : List Int} (h : 0 < cs.length) : ∃ m, (rcvFold cs).ls = some m ∧ m ∈ cs ∧ ∀ x ∈ cs, x ≤ m := by
  have hl := rcvFold_ls cs
  cases hla : (rcvFold cs).ls with
  | none =>
    rw [hla] at hl
    cases cs with
    | nil => simp at h
    | cons a l => have := hl a; simp at this
  | some m =>
    rw [hla] at hl
    obtain ⟨h1, h2⟩ := hl
    simp only [decide_eq_true_eq] at h1 h2
    exact ⟨m, rfl, h1, h2⟩
/-- the first range ends at the greatest -/
theorem rcvFold_hd {cs : List Int} {p : P2} {ps : List P2} (e : (rcvFold cs).rcv = p :: ps) : p.2 ∈ cs ∧ ∀ x ∈ cs, x ≤ p.2 := by
  obtain ⟨h1, h2⟩ := rcvFold_rcv cs
  rw [e] at h1 h2
  exact ⟨(h2 _).mp (InR.mem (.head _) h1.1), fun x hx => h1.top ((h2 x).mpr hx)⟩
theorem gaps_small {ps : List P2} {bf : Int} (c : CanonB bf ps) (l : ∀ x, InR ps x → 0 ≤ x) (hb : bf ≤ 64) : ∀ q ∈ gapsOf bf ps, 0 ≤ q.1 ∧ q.1 < 64 ∧ 0 ≤ q.2 ∧ q.2 < 64 := by
  induction ps generalizing bf with
  | nil => intro q hq; simp [gapsOf] at hq
  | cons p ps ih =>
    obtain ⟨c1, c2, c3⟩ := c
    have l1 := l p.1 (InR.cons.mpr (.inl ⟨Int.le_refl _, c2⟩))
    intro q hq
    rcases List.mem_cons.mp hq with rfl | hq
    · dsimp only; (first | lia | omega)
    · exact ih c3 (fun x hx => l x (InR.cons.mpr (.inr hx))) (by (first | lia | omega)) q hq
theorem Good.fit {M : Nat} {p : P2} {ps : List P2} (h : Good M (p :: ps)) (hM : M ≤ 64) : 0 ≤ p.2 ∧ p.2 < 64 ∧ 0 ≤ p.2 - p.1 ∧ p.2 - p.1 < 64 ∧ ∀ q ∈ gapsOf p.1 ps, 0 ≤ q.1 ∧ q.1 < 64 ∧ 0 ≤ q.2 ∧ q.2 < 64 := by
  obtain ⟨⟨c1, c2⟩, h2⟩ := h
  have a := h2 p.2 (InR.cons.mpr (.inl ⟨c1, Int.le_refl _⟩))
  have b := h2 p.1 (InR.cons.mpr (.inl ⟨Int.le_refl _, c1⟩))
  refine ⟨a.1, by (first | lia | omega), by (first | lia | omega), by (first | lia | omega), gaps_small c2 (fun x hx => (h2 x (InR.cons.mpr (.inr hx))).1) (by (first | lia | omega))⟩
theorem take_take_len {α : Type} (l : List α) (k : Nat) : l.take (l.take k).length = l.take k := by
  rw [List.length_take]
  by_cases h : k ≤ l.length
  · rw [Nat.min_eq_left h]
  · rw [Nat.min_eq_right (by (first | lia | omega)), List.take_length, List.take_of_length_le (by (first | lia | omega))]
theorem take_take_len2 {α : Type} (l : List α) {k j : Nat} (h : k ≤ j) : (l.take j).take (l.take k).length = l.take k := by
  rw [List.take_take, List.length_take]
  by_cases hk : k ≤ l.length
  · rw [show min (min k l.length) j = k by (first | lia | omega)]
  · rw [show min (min k l.length) j = l.length by (first | lia | omega), List.take_length, List.take_of_length_le (by (first | lia | omega))]
theorem told_one {ws : List P2} {x : Int} : told [ws] x = hasNum ws x := by simp [told]
theorem told_sub {ws : List P2} {wss : List (List P2)} (hm : ws ∈ wss) (h : ∀ v ∈ wss, ∀ x, hasNum v x = true → hasNum ws x = true) (x : Int) : told wss x = told [ws] x := by
  rw [told_one, Bool.eq_iff_iff]
  unfold told
  rw [List.any_eq_true]
  exact ⟨fun ⟨v, hv, hx⟩ => h v hv x hx, fun hx => ⟨ws, hm, hx⟩⟩
/- drawing packets -/
structure Draw (M : Nat) (cs ls : List Int) : Prop where
  perm : (cs ++ ls).Perm (rng M)
  up : ls.Pairwise (· < ·)
theorem Draw.start (M : Nat) : Draw M [] (rng M) := ⟨List.Perm.refl _, by rw [rng_span]; exact span_sorted _ _⟩
theorem eraseIdx_perm {α : Type} {ls : List α} {i : Nat} {x : α} (h : ls[i]? = some x) : (x :: ls.eraseIdx i).Perm ls := by
  induction ls generalizing i with
  | nil => simp at h
  | cons a l ih =>
    cases i with
    | zero => simp at h; subst h; exact List.Perm.refl _
    | succ i =>
      simp only [List.getElem?_cons_succ] at h
      rw [List.eraseIdx_cons_succ]
      exact (List.Perm.swap a x _).trans ((ih h).cons a)
theorem Draw.step {M : Nat} {cs ls : List Int} {i : Nat} {x : Int} (d : Draw M cs ls) (h : ls[i]? = some x) : Draw M (cs ++ [x]) (ls.eraseIdx i) := by
  refine ⟨?_, d.up.sublist (List.eraseIdx_sublist _ _)⟩
  rw [List.append_assoc]
  exact ((eraseIdx_perm h).append_left cs).trans d.perm
theorem Draw.nodup {M : Nat} {cs ls : List Int} (d : Draw M cs ls) : (cs ++ ls).Nodup := by
  rw [d.perm.nodup_iff, rng_span]
  exact (span_sorted 0 M).imp fun h => Int.ne_of_lt h
theorem Draw.len {M : Nat} {cs ls : List Int} (d : Draw M cs ls) : cs.length + ls.length = M := by
  have := d.perm.length_eq
  rw [List.length_append, rng_len] at this; exact this
theorem Draw.cs_in {M : Nat} {cs ls : List Int} (d : Draw M cs ls) : ∀ x ∈ cs, 0 ≤ x ∧ x < M := fun x hx => rng_mem.mp (d.perm.mem_iff.mp (List.mem_append_left _ hx))
theorem Draw.cs_nodup {M : Nat} {cs ls : List Int} (d : Draw M cs ls) : cs.Nodup := (List.nodup_append.mp d.nodup).1
theorem Draw.ls_eq {M : Nat} {cs ls : List Int} (d : Draw M cs ls) : ls = (rng M).filter fun x => !decide (x ∈ cs) := by
  refine lt_ext d.up ?_ fun x => ?_
  · rw [rng_span]; exact (span_sorted 0 M).filter _
  · rw [List.mem_filter, ← d.perm.mem_iff, List.mem_append]
    have hdis := List.nodup_append.mp d.nodup
    constructor
    · intro hx
      refine ⟨.inr hx, ?_⟩
      have : x ∉ cs := fun hc => hdis.2.2 x hc x hx rfl
      simp [this]
    · rintro ⟨h1 | h1, h2⟩
      · simp [h1] at h2
      · exact h1
theorem nodup_fresh {cs : List Int} (h : cs.Nodup) {i : Nat} {x : Int} (hx : cs[i]? = some x) : x ∉ cs.take i := by
  intro hm
  obtain ⟨j, hj, e⟩ := List.mem_iff_getElem.mp hm
  rw [List.getElem_take] at e
  rw [List.length_take] at hj
  obtain ⟨hi, e'⟩ := List.getElem?_eq_some_iff.mp hx
  have := (List.getElem_inj (h₀ := by (first | lia | omega)) (h₁ := hi) h).mp (e.trans e'.symm)
  (first | lia | omega)
theorem hasNum_fold (cs : List Int) (x : Int) : hasNum (rcvFold cs).rcv x = decide (x ∈ cs) := by
  rw [Bool.eq_iff_iff, hasNum_iff, (rcvFold_rcv cs).2, decide_eq_true_iff]
end Mine
end

section
open PySem PySem.W PyProof.Rows PySem.Calls PyProof.Rows.LCg
set_option maxRecDepth 100000
namespace Mine
theorem cut_at : ∀ {l : List Value} {k : Nat} {y : Value}, l[k]? = some y → ∃ p q, kl_cut l k = some (p, y, q) ∧ p ++ q = l.eraseIdx k
  | [], k, y, h => by simp at h
  | x :: l, 0, y, h => by
    simp at h; subst h
    exact ⟨[], l, rfl, rfl⟩
  | x :: l, k + 1, y, h => by
    obtain ⟨p, q, h1, h2⟩ := cut_at (l := l) (k := k) (by simpa using h)
    refine ⟨x :: p, q, ?_, ?_⟩
    · show (match kl_cut l k with | some (p, y, q) => some (x :: p, y, q) | none => none) = _
      rw [h1]
    · rw [List.cons_append, h2]; rfl
theorem ints_erase {vs : List Value} {ns : List Int} (h : IntsAre vs ns) : ∀ k, IntsAre (vs.eraseIdx k) (ns.eraseIdx k) := by
  induction h with
  | nil => intro k; exact .nil
  | cons n t r ih =>
    intro k
    cases k with
    | zero => exact r
    | succ k => exact .cons n t (ih k)
section
variable {prog : Program} {w : World} {A : Around} {E : Value → Shared → Prop} {s : Shared} {h₀ : Heap} {L D : Addr} {m : Str → Option Value} {news news' : Led}
theorem popAt_L {vs : List Value} {ns : List Int} {n : Nat} {i : Int} {u : Tok} {Q : Value → Shared → Prop} (F : Fr h₀ L s.heap m) (N : News h₀ L s.heap news) (hi : IntsAre vs ns) (h0 : 0 ≤ i) (h1 : i < ns.length) (hsz : ns.length ≤ 1000)
    (U : Upd D (listOf vs.toArray n) (listOf (vs.eraseIdx i.toNat).toArray (n + 1)) news news')
    (h : ∀ h' x t, ns[i.toNat]? = some x → IntsAre (vs.eraseIdx i.toNat) (ns.eraseIdx i.toNat) → Fr h₀ L h' m → News h₀ L h' news' → Q (.int x t) { s with heap := h' }) : wpAny (model prog w) A (call (.builtin "list.pop") [.ref D, .int i u]) Q E s := by
  have hx : ns[i.toNat]? = some (ns[i.toNat]'(by (first | lia | omega))) := List.getElem?_eq_getElem (by (first | lia | omega))
  obtain ⟨t, ht⟩ := hi.get i.toNat _ hx
  obtain ⟨p, q, e1, e2⟩ := cut_at ht
  have hvl : vs.length = ns.length := hi.length
  rw [← e2] at U
  refine kl_popAt (k := i.toNat) F N ?_ ?_ (by rw [List.toList_toArray]; exact e1) U (by rw [List.toList_toArray, hvl, PySem.sizeLine_eq]; (first | lia | omega)) fun h' F' N' => h h' _ t hx (ints_erase hi _) F' N'
  · unfold Builtin.List.listFitsIndex; simp only [Bool.and_eq_true, decide_eq_true_eq]; (first | lia | omega)
  · unfold seqIndex?
    rw [List.size_toArray, hvl]
    simp only [if_neg (show ¬ i < 0 by (first | lia | omega))]
    rw [if_pos (by simp only [Bool.and_eq_true, decide_eq_true_eq]; (first | lia | omega))]
end
theorem nm10 {P : Prop} {h₀ : Heap} {L : Addr} {h : Heap} {a1 a2 a3 a4 a5 a6 a7 a8 a9 a10 : Addr} {o1 o2 o3 o4 o5 o7 o8 o9 o10 : Obj} {v6 : List Value} {n6 : Nat} {r : Led} (_ : News h₀ L h ((a1, o1) :: (a2, o2) :: (a3, o3) :: (a4, o4) :: (a5, o5) :: (a6, listOf v6.toArray n6) :: (a7, o7) :: (a8, o8) :: (a9, o9) :: (a10, o10) :: r))
    (k : ∀ b1 b2 b3 b4 b5 b6 b7, b1 = a1 → b2 = a2 → b3 = a3 → b4 = a4 → b5 = a5 → b6 = a6 → b7 = a7 → ∀ q8 q9 q10 vx nx, q8 = o8 → q9 = o9 → q10 = o10 → vx = v6 → nx = n6 → P) : P := k _ _ _ _ _ _ _ rfl rfl rfl rfl rfl rfl rfl _ _ _ _ _ rfl rfl rfl rfl rfl
theorem nm1 {P : Prop} {h₀ : Heap} {L : Addr} {h : Heap} {a1 : Addr} {o1 : Obj} {r : Led} (_ : News h₀ L h ((a1, o1) :: r))
    (k : ∀ b1, b1 = a1 → P) : P := k _ rfl
noncomputable def JoinEnd {α : Type} (h₀ : Heap) (L : Addr) (s : Shared) (m : α → Str → Option Value) (news : α → Led) (P : α → Prop) (f : Flow) (s' : Shared) : Prop :=
  f = .next ∧ ∃ a h' tk', s' = { s with heap := h', toks := tk' } ∧ Fr h₀ L h' (m a) ∧ News h₀ L h' (news a) ∧ P a
theorem JoinEnd.intro {α : Type} {h₀ : Heap} {L : Addr} {s : Shared} {m : α → Str → Option Value} {news : α → Led} {P : α → Prop} {h' : Heap} {tk' : Nat} {all : Led} (a : α) (F' : Fr h₀ L h' (m a)) (N' : News h₀ L h' all) (hs : ∀ p ∈ news a, p ∈ all) (hP : P a) :
    JoinEnd h₀ L s m news P .next { s with heap := h', toks := tk' } := ⟨rfl, a, h', tk', rfl, F', fun p hp => N' p (hs p hp), hP⟩
section
variable {prog : Program} {w : World} {A : Around} {E : Value → Shared → Prop} {s : Shared} {h₀ : Heap} {L : Addr} {m : Str → Option Value} {news : Led} {c : Sem Flow} {Q : Flow → Shared → Prop}
theorem join_same (F : Fr h₀ L s.heap m) (N : News h₀ L s.heap news) (h : wpAny (model prog w) A c (JoinEnd (α := Unit) h₀ L s (fun _ => m) (fun _ => news) (fun _ => True)) E s)
    (k : ∀ h' tk', Fr h₀ L h' m → News h₀ L h' news → Q .next { s with heap := h', toks := tk' }) : wpAny (model prog w) A c Q E s := by
  refine wpAny_mono h (fun f s' p => ?_) fun _ _ e => e
  obtain ⟨rfl, a, h', tk', rfl, F', N', _⟩ := p
  exact k h' tk' F' N'
theorem join_name (x : Str) (P : Int → Prop) (F : Fr h₀ L s.heap m) (N : News h₀ L s.heap news) (h : wpAny (model prog w) A c (JoinEnd (α := Int × Tok) h₀ L s (fun a y => if y = x then some (.int a.1 a.2) else m y) (fun _ => news) (fun a => P a.1)) E s)
    (k : ∀ i t h' tk', P i → Fr h₀ L h' (fun y => if y = x then some (.int i t) else m y) → News h₀ L h' news → Q .next { s with heap := h', toks := tk' }) : wpAny (model prog w) A c Q E s := by
  refine wpAny_mono h (fun f s' p => ?_) fun _ _ e => e
  obtain ⟨rfl, ⟨i, t⟩, h', tk', rfl, F', N', hP⟩ := p
  exact k i t h' tk' hP F' N'
end
noncomputable def RngEnd (h₀ : Heap) (L : Addr) (m : Str → Option Value) (s : Shared) (all : Led) (a : Int) (n : Nat) (xv : Value) (s' : Shared) : Prop :=
  ∃ r h' tk' t1 t2 t3, xv = .ref r ∧ s' = { s with heap := h', toks := tk' } ∧ Fr h₀ L h' m ∧ News h₀ L h' all ∧ IsRange h' r a (a + (n : Int)) 1 t1 t2 t3 ∧ Builtin.Range.small a (a + (n : Int)) 1 = true
theorem RngEnd.intro {h₀ : Heap} {L : Addr} {m : Str → Option Value} {s : Shared} {all all' : Led} {a b : Int} {n : Nat} {r : Addr} {h' : Heap} {tk' : Nat} {t1 t2 t3 : Tok} (F : Fr h₀ L h' m) (N : News h₀ L h' all') (hs : ∀ p ∈ all, p ∈ all') (hr : IsRange h' r a b 1 t1 t2 t3) (hb : b = a + (n : Int)) (hz : -1000 ≤ a ∧ a ≤ 1000 ∧ -1000 ≤ b ∧ b ≤ 1000) :
    RngEnd h₀ L m s all a n (.ref r) { s with heap := h', toks := tk' } := by
  subst hb
  exact ⟨r, h', tk', t1, t2, t3, rfl, rfl, F, fun p hp => N p (hs p hp), hr, range_sm hz.1 hz.2.1 hz.2.2.1 hz.2.2.2⟩
theorem rest2_ind {prog : Program} {w : World} {A : Around} {s : Shared} {h₀ : Heap} {L : Addr} {m : Str → Option Value} {env : Env} {i1 : Expr} {x x₂ : Str} {scope : Scope} {cl : List (Str × Addr)} {P : Nat → Value → Prop} {Fin : List Value → Prop} {news : Led} {n : Nat} (Inv : Nat → List Value → Prop) (h0 : Inv 0 [])
    (step : ∀ i ys, i < n → Inv i ys → ∀ v, P i v → ∃ (t : Addr) (ot : Obj) (v₁ v₂ : Value) (nt : Nat) (a : Int) (k : Nat), v = .ref t ∧ (t, ot) ∈ news ∧ ot.cls = .type "tuple" ∧ ot.data = .seq #[v₁, v₂] nt ∧ ys.length + k ≤ sizeLine ∧
      (∀ I oI C oC D m₂ h tk (E' : Value → Shared → Prop), NsObj oC m₂ → m₂ x = some v₁ → m₂ x₂ = some v₂ → Fr h₀ L h m → News h₀ L h ((I, oI) :: (C, oC) :: (D, LCg.lst ys) :: news) → LCg.Off3 I C D news → ((@Ne Nat I C) ∧ (@Ne Nat I D) ∧ (@Ne Nat C D)) →
        wpAny (model prog w) A (eval i1 (compEnvC scope cl C env)) (RngEnd h₀ L m { s with heap := h, toks := tk } ((I, oI) :: (C, oC) :: (D, LCg.lst ys) :: news) a k) E' { s with heap := h, toks := tk }) ∧
      ∀ ws, IntsAre ws (span a k) → Inv (i + 1) (ys ++ ws))
    (fin : ∀ ys, Inv n ys → Fin ys) : Rest2 prog w A h₀ L m env i1 x x₂ scope cl s P Fin news n 0 [] := by
  have all : ∀ k i ys, i + k = n → Inv i ys → Rest2 prog w A h₀ L m env i1 x x₂ scope cl s P Fin news k i ys := by
    intro k
    induction k with
    | zero => intro i ys e h; exact fin ys (by rw [← e]; exact h)
    | succ k ih =>
      intro i ys e h v hv
      obtain ⟨t, ot, v₁, v₂, nt, a, j, b1, b2, b3, b4, b5, st, nx⟩ := step i ys (by (first | lia | omega)) h v hv
      refine ⟨t, ot, v₁, v₂, nt, a, j, b1, b2, b3, b4, b5, fun I oI C oC D m₂ h' tk E' a1 a2 a3 a4 a5 a6 a7 => ?_, fun ws hw => ih (i + 1) _ (by (first | lia | omega)) (nx ws hw)⟩
      refine wpAny_mono (st I oI C oC D m₂ h' tk E' a1 a2 a3 a4 a5 a6 a7) (fun xv s' p => ?_) fun _ _ e => e
      obtain ⟨r, h2, tk2, t1, t2, t3, c1, c2, c3, c4, c5, c6⟩ := p
      exact ⟨r, h2, tk2, t1, t2, t3, c1, c2, c3, c4, c5, c6⟩
  exact all n 0 [] (by (first | lia | omega)) h0
/-- two places, out of (first | lia | omega)'s sight -/
structure NeA (a b : Nat) : Prop where
  out : a ≠ b
theorem NeA.sy {a b : Nat} (h : NeA a b) : b ≠ a := Ne.symm h.out
structure Hid (p : Prop) : Prop where
  out : p
theorem Con.rcv2 {w : World} {mean : ExcName → Option Value} {mg mb : Str → Option Value} {f : Addr} {dd uu : Nat} {I : Led} {vs : List Value} (h : Con w mean mg mb f dd uu I vs (SpNew w I)) :
    Con w mean mg mb f dd uu I vs (fun r N => ∃ x d ec c tl, r = .ref x ∧ N = rcvL w d ec c ++ (I ++ tl) ∧ Ab I (rcvL w d ec c ++ tl) ∧ (x, instObj 245 d) ∈ tl ∧ OwnOff (I ++ tl) [d, ec] ∧ (@Ne Nat d ec) ∧ RcvOK w tl c ⟨[], none, 0, 0, 0⟩) := by
  refine h.mono ?_
  rintro r N ⟨ho, lo, hab, rfl, l1, l2, l3, l4, l5⟩
  rename_i x d sd ac rc ec T ts t1 t2 t3 u1 u2 u3 o
  refine ⟨rcvL w d ec ⟨T, .int 0 t1, .ref sd, .none, .ref ac, .none, .none, .bool false, .bool false, .bool false, ts, rc, .none, .none, .none, t2, 0, t3, 0, 0, 0, u1, u2, u3, 0⟩ ++ (I ++ [(x, instObj 245 d), (sd, o), (ac, listOf [].toArray 0), (rc, listOf [].toArray 0)]), ?_, x, d, ec, _, _, rfl, rfl, ?_, .head _, ?_, ?_, ⟨⟨[], 0, by simp, .nil⟩, .fresh, rfl, rfl, rfl⟩⟩
  · exact perm_rcv
  · exact fun q hq => hab q (perm_rcv0 q hq)
  · have l2' := Nat.lt_trans l1 l2
    have l3' := Nat.lt_trans l2' l3
    have r4 := Nat.lt_trans l4 l5
    have r3 := Nat.lt_trans l3 r4
    exact OwnOff.app (ab_off2' hab (.head _) (.tail _ (.tail _ (.tail _ (.tail _ (.tail _ (.head _))))))) (off42 (Nat.ne_of_gt l1) (Nat.ne_of_gt l2') (Nat.ne_of_gt l3') (Nat.ne_of_gt (Nat.lt_trans l3' l4)) (Nat.ne_of_lt (Nat.lt_trans l2 r3)) (Nat.ne_of_lt r3) (Nat.ne_of_lt r4) (Nat.ne_of_lt l5))
  · exact Nat.ne_of_lt (Nat.lt_trans l1 (Nat.lt_trans l2 (Nat.lt_trans l3 (Nat.lt_trans l4 l5))))
theorem ne_own4 {o l : Led} {d a b c : Addr} {r : List Addr} (h : OwnOff l (a :: b :: c :: d :: r)) (hs : ∀ p ∈ o, p ∈ l) : ∀ p ∈ o, p.1 ≠ d := fun p hp => h p (hs p hp) d (.tail _ (.tail _ (.tail _ (.head _))))
theorem ab_off {I a : Led} {b : Addr} {o : Obj} (h : Ab I a) (hm : (b, o) ∈ I) : ∀ p ∈ a, p.1 ≠ b := fun p hp => Ne.symm (h p hp (b, o) hm)
theorem ab_off2 {I r1 t1 J r2 t2 : Led} {b : Addr} {o o' : Obj} (h1 : Ab I (r1 ++ t1)) (h2 : Ab J (r2 ++ t2)) (m1 : (b, o) ∈ I) (m2 : (b, o') ∈ J) : ∀ p ∈ t1 ++ t2, p.1 ≠ b := fun p hp => by
  rcases List.mem_append.mp hp with h | h
  · exact ab_off h1 m1 p (List.mem_append_right _ h)
  · exact ab_off h2 m2 p (List.mem_append_right _ h)
theorem off3 {l : Led} {a b c : Addr} (h1 : ∀ p ∈ l, p.1 ≠ a) (h2 : ∀ p ∈ l, p.1 ≠ b) (h3 : ∀ p ∈ l, p.1 ≠ c) : OwnOff l [a, b, c] := off_of (List.forall_mem_cons.mpr ⟨h1, List.forall_mem_cons.mpr ⟨h2, List.forall_mem_cons.mpr ⟨h3, List.forall_mem_nil _⟩⟩⟩)
theorem News.congr {h₀ : Heap} {L : Addr} {h : Heap} {n n' : Led} (N : News h₀ L h n) (e : n = n') : News h₀ L h n' := e ▸ N
theorem nmo {P : Prop} {o : Obj} {d : Data} (_ : o.data = d) (k : ∀ o', o' = o → P) : P := k _ rfl
theorem rcv_off {w d ec c} {o a : Led} (h : Ab (rcvL w d ec c ++ o) a) : OwnOff a [d, ec] := OwnOff.of_ab (h.app_o)
theorem rcvL_ab {w d ec c c'} {o a : Led} (h : Ab (rcvL w d ec c ++ o) a) : Ab (rcvL w d ec c' ++ o) a := h.same_o rfl
theorem offBW {R : Led} {bx wd d1 ec1 : Addr} {o o' : Obj} (h : OwnOff R [d1, ec1, bx, wd]) (n1 : NeA bx d1) (n2 : NeA bx ec1) (n3 : NeA wd d1) (n4 : NeA wd ec1) : OwnOff ((bx, o) :: (wd, o') :: R) [d1, ec1] := by
  intro p hp b hb
  rcases List.mem_cons.mp hp with rfl | hp
  · rcases List.mem_cons.mp hb with rfl | hb
    · exact n1.out
    · rw [List.mem_singleton.mp hb]; exact n2.out
  · rcases List.mem_cons.mp hp with rfl | hp
    · rcases List.mem_cons.mp hb with rfl | hb
      · exact n3.out
      · rw [List.mem_singleton.mp hb]; exact n4.out
    · rcases List.mem_cons.mp hb with rfl | hb
      · exact h p hp _ (.head _)
      · rw [List.mem_singleton.mp hb]; exact h p hp _ (.tail _ (.head _))
theorem off_x3 {R : Led} {own : Led} {bx wd d1 ec1 : Addr} {o o' : Obj} (h : OwnOff (R ++ own) [d1, ec1, bx, wd]) (h2 : OwnOff own (R.map (·.1))) : OwnOff R (((bx, o) :: (wd, o') :: own).map (·.1)) := by
  intro p hp b hb
  have hp' : p ∈ R ++ own := List.mem_append_left _ hp
  rcases List.mem_cons.mp hb with rfl | hb
  · exact h p hp' _ (.tail _ (.tail _ (.head _)))
  · rcases List.mem_cons.mp hb with rfl | hb
    · exact h p hp' _ (.tail _ (.tail _ (.tail _ (.head _))))
    · obtain ⟨q, hq, rfl⟩ := List.mem_map.mp hb
      exact fun e => h2 q hq p.1 (List.mem_map.mpr ⟨p, hp, rfl⟩) e.symm
theorem offY {R own : Led} {bx wd d1 ec1 : Addr} {o o' : Obj} (h : OwnOff (R ++ own) [d1, ec1, bx, wd]) (n1 : NeA bx d1) (n2 : NeA bx ec1) (n3 : NeA wd d1) (n4 : NeA wd ec1) : OwnOff (((bx, o) :: (wd, o') :: own) ++ R) [d1, ec1] := by
  have k := offBW (o := o) (o' := o') h n1 n2 n3 n4
  intro p hp
  refine k p ?_
  simp only [List.cons_append, List.mem_cons, List.mem_append] at hp ⊢
  rcases hp with h | h | h | h
  · exact .inl h
  · exact .inr (.inl h)
  · exact .inr (.inr (.inr h))
  · exact .inr (.inr (.inl h))
theorem offY2 {Y9 R t : Led} {adr : List Addr} (h : OwnOff (Y9 ++ R) adr) (k : OwnOff t adr) : OwnOff (Y9 ++ (R ++ t)) adr := by
  rw [← List.append_assoc]; exact OwnOff.app h k
theorem ab_turn {w : World} {d1 ec1 bx wd : Addr} {c c' : RcvC} {o1 o2 o1' o2' : Obj} {own R TT : Led} (h : Ab (rcvL w d1 ec1 c ++ (((bx, o1) :: (wd, o2) :: own) ++ R)) TT) : Ab ((rcvL w d1 ec1 c' ++ [(bx, o1'), (wd, o2')]) ++ (R ++ own)) TT := by
  intro q hq p hp
  simp only [rcvL, List.cons_append, List.nil_append, List.mem_cons, List.mem_append] at hp
  rcases hp with rfl | rfl | rfl | rfl | hp | hp
  · exact (h q hq (d1, _) (.head _) : d1 ≠ q.1)
  · exact (h q hq (ec1, _) (.tail _ (.head _)) : ec1 ≠ q.1)
  · exact (h q hq (bx, o1) (.tail _ (.tail _ (.head _))) : bx ≠ q.1)
  · exact (h q hq (wd, o2) (.tail _ (.tail _ (.tail _ (.head _)))) : wd ≠ q.1)
  · exact h q hq p (List.mem_append_right _ (List.mem_append_right _ hp))
  · exact h q hq p (List.mem_append_right _ (List.mem_append_left _ (.tail _ (.tail _ hp))))
theorem ab_turn_off {w : World} {d1 ec1 bx wd : Addr} {c : RcvC} {o1 o2 : Obj} {own R TT : Led} (h : Ab (rcvL w d1 ec1 c ++ (((bx, o1) :: (wd, o2) :: own) ++ R)) TT) : OwnOff TT [d1, ec1, bx, wd] := by
  intro p hp b hb
  simp only [List.mem_cons, List.not_mem_nil, or_false] at hb
  rcases hb with rfl | rfl | rfl | rfl
  · exact Ne.symm (h p hp (b, _) (.head _))
  · exact Ne.symm (h p hp (b, _) (.tail _ (.head _)))
  · exact Ne.symm (h p hp (b, o1) (.tail _ (.tail _ (.head _))))
  · exact Ne.symm (h p hp (b, o2) (.tail _ (.tail _ (.tail _ (.head _)))))
/-- four parts made one after another are one part -/
theorem ab_four {w : World} {d1 ec1 : Addr} {c c' : RcvC} {Y9 R t1 t2 t3 t4 : Led} (h1 : Ab (rcvL w d1 ec1 c ++ (Y9 ++ R)) t1) (h2 : Ab (rcvL w d1 ec1 c' ++ (Y9 ++ (R ++ t1))) t2) (h3 : Ab (rcvL w d1 ec1 c' ++ Y9 ++ ((R ++ t1) ++ t2)) t3) (h4 : Ab (rcvL w d1 ec1 c' ++ Y9 ++ (((R ++ t1) ++ t2) ++ t3)) t4) : Ab (rcvL w d1 ec1 c' ++ (Y9 ++ R)) (((t1 ++ t2) ++ t3) ++ t4) := by
  refine Ab.app (Ab.app (Ab.app (rcvL_ab h1) (h2.sub fun p hp => ?_)) (h3.sub fun p hp => ?_)) (h4.sub fun p hp => ?_)
  all_goals
    rcases List.mem_append.mp hp with h | h
    · simp only [List.mem_append]; simp [h]
    · rcases List.mem_append.mp h with h | h <;> simp [h]
theorem four_eq (R t1 t2 t3 t4 : Led) : (((R ++ t1) ++ t2) ++ t3) ++ t4 = R ++ (((t1 ++ t2) ++ t3) ++ t4) := by simp [List.append_assoc]
theorem four1 {R t1 t2 t3 t4 : Led} : ∀ p ∈ R ++ t1, p ∈ R ++ (((t1 ++ t2) ++ t3) ++ t4) := fun _ h => four_eq R t1 t2 t3 t4 ▸ List.mem_append_left _ (List.mem_append_left _ (List.mem_append_left _ h))
theorem four2 {R t1 t2 t3 t4 : Led} : ∀ p ∈ (R ++ t1) ++ t2, p ∈ R ++ (((t1 ++ t2) ++ t3) ++ t4) := fun _ h => four_eq R t1 t2 t3 t4 ▸ List.mem_append_left _ (List.mem_append_left _ h)
theorem four3 {R t1 t2 t3 t4 : Led} : ∀ p ∈ ((R ++ t1) ++ t2) ++ t3, p ∈ R ++ (((t1 ++ t2) ++ t3) ++ t4) := fun _ h => four_eq R t1 t2 t3 t4 ▸ List.mem_append_left _ h
theorem four4 {R t1 t2 t3 t4 : Led} : ∀ p ∈ (((R ++ t1) ++ t2) ++ t3) ++ t4, p ∈ R ++ (((t1 ++ t2) ++ t3) ++ t4) := fun _ h => four_eq R t1 t2 t3 t4 ▸ h
noncomputable def datM (a b c : Int) : Dat := if 0 < a + b + c then .tuple [.int a, .int b, .int c] else .none
theorem MarksIn.dat {I v a b c} (h : MarksIn I v a b c) : DatIn I v (datM a b c) := by
  cases h with
  | none h => unfold datM; rw [if_neg (by (first | lia | omega))]; exact .none
  | tup h k => unfold datM; rw [if_pos h]; exact .tuple k (.cons (.int _ _) (.cons (.int _ _) (.cons (.int _ _) .nil)))
theorem datM_ok (a b c : Int) : kqdOk 7 (datM a b c) = true := by
  unfold datM; split <;> rfl
noncomputable def datW (ps : List P2) (a b c : Int) : Dat := .tuple [datR ps, datM a b c]
theorem datW_ok (ps : List P2) (a b c : Int) : kqdOk 8 (datW ps a b c) = true := by
  have h1 := datR_ok ps
  have h2 := datM_ok a b c
  simp only [datW, kqdOk, List.all_cons, List.all_nil, Bool.and_true, Bool.and_eq_true]
  exact ⟨h1, h2⟩
noncomputable def datB (a : SndA) : Dat := .tuple [datI a.sent, datO a.la, datR a.ack]
theorem datB_ok (a : SndA) : kqdOk 8 (datB a) = true := by
  have h1 := datI_ok a.sent
  have h2 := datR_ok a.ack
  have h3 : kqdOk 7 (datO a.la) = true := by cases a.la <;> rfl
  simp only [datB, kqdOk, List.all_cons, List.all_nil, Bool.and_true, Bool.and_eq_true]
  exact ⟨h1, h3, h2⟩
theorem ints_rev {vs : List Value} {ns : List Int} (h : IntsAre vs ns) : IntsAre vs.reverse ns.reverse := by
  induction h with
  | nil => exact .nil
  | cons n t _ ih => rw [List.reverse_cons, List.reverse_cons]; exact IntsAre.append ih (.cons n t .nil)
set_option genSizeOf false in
set_option genInjectivity false in
structure L2 where
  c1 : RcvC
  k : Int
  kt : Tok
  n : Nat
  wv : List Value
  wn : Nat
set_option genSizeOf false in
set_option genInjectivity false in
structure L1 where
  k : Int
  kt : Tok
  n : Nat
  lv : List Value
  ls : List Int
  ln : Nat
  cv : List Value
  cs : List Int
  cn : Nat
end Mine
end

section
open PySem PySem.W PyProof.Rows
namespace Mine
/-! the plain law's end -/
theorem told_fold (cs : List Int) : told [(rcvFold cs).rcv] = fun x => decide (x ∈ cs) := funext fun x => by rw [told_one, hasNum_fold]
theorem SInv.whole_sent {M : Nat} {cs ls : List Int} {a : SndA} (h : SInv M [(rcvFold cs).rcv] a) (d : Draw M cs ls) : a.sent = ls := by
  rw [h.sent, told_fold, d.ls_eq]
theorem SInv.whole_la {M : Nat} {cs : List Int} {a : SndA} (h : SInv M [(rcvFold cs).rcv] a) : a.la = (rcvFold cs).ls :=
  LaOK.uniq h.la (by rw [told_fold]; exact rcvFold_ls cs)
/-- other words beside the whole change nothing -/
theorem told_whole {cs : List Int} {wss : List (List P2)} (hm : (rcvFold cs).rcv ∈ wss) (h : ∀ v ∈ wss, ∀ x, hasNum v x = true → x ∈ cs) (x : Int) : told wss x = told [(rcvFold cs).rcv] x :=
  told_sub hm (fun v hv x hx => by rw [hasNum_fold]; exact decide_eq_true (h v hv x hx)) x
theorem whole_sub (cs : List Int) (x : Int) (h : hasNum (rcvFold cs).rcv x = true) : x ∈ cs := by
  rw [hasNum_fold] at h; exact of_decide_eq_true h
theorem boolv_succ (f : Int → Bool) (i : Nat) : ((span 0 (i + 1)).map f).map Value.bool = ((span 0 i).map f).map Value.bool ++ [Value.bool (f (0 + (i : Int)))] := by
  rw [span_succ, List.map_append, List.map_append]; rfl
theorem datI_iff' {ps qs : List Int} (h : ps = qs) : datI ps = datI qs := h ▸ rfl
theorem datB_iff {a b : SndA} (h : a = b) : datB a = datB b := h ▸ rfl
theorem filter_span_yes {f : Int → Bool} {a : Int} {i : Nat} (h : f (a + (i : Int)) = true) : (span a (i + 1)).filter f = (span a i).filter f ++ [a + (i : Int)] := by
  rw [span_succ, List.filter_append, List.filter_cons, h]; rfl
theorem filter_span_no {f : Int → Bool} {a : Int} {i : Nat} (h : f (a + (i : Int)) = false) : (span a (i + 1)).filter f = (span a i).filter f := by
  rw [span_succ, List.filter_append, List.filter_cons, h]; simp
end Mine
namespace Mine
theorem RcvOK.seen {w : World} {I : Led} {c : RcvC} {a : RcvA} {x : Int} (h : RcvOK w I c a) (e : a.ls = some x) : ∃ t, c.ls = .int x t := by
  have hs := h.st
  rw [e] at hs
  generalize c.ls = v1 at hs ⊢
  generalize c.lt = v2 at hs
  generalize c.fu = v3 at hs
  generalize c.k = v4 at hs
  cases hs with | on _ => exact ⟨_, rfl⟩
end Mine
namespace Mine
theorem off3_own {I C D : Addr} {oI oC oD : Obj} {news : Led} {d e : Addr} {od oe : Obj} (off : LCg.Off3 I C D news) (h1 : (d, od) ∈ news) (h2 : (e, oe) ∈ news) : OwnOff [(I, oI), (C, oC), (D, oD)] [d, e] := by
  have a := off.mem _ h1
  have b := off.mem _ h2
  intro p hp q hq
  simp only [List.mem_cons, List.not_mem_nil, or_false] at hp hq
  rcases hp with rfl | rfl | rfl <;> rcases hq with rfl | rfl
  · exact Ne.symm a.1
  · exact Ne.symm b.1
  · exact Ne.symm a.2.1
  · exact Ne.symm b.2.1
  · exact Ne.symm a.2.2
  · exact Ne.symm b.2.2
theorem off1_own {D : Addr} {oD : Obj} {news l : Led} {d e : Addr} {od oe : Obj} (off : LCg.Off1 D news) (h1 : (d, od) ∈ news) (h2 : (e, oe) ∈ news) (h : OwnOff l [d, e]) : OwnOff ((D, oD) :: l) [d, e] := by
  have a := off1_mem off _ h1
  have b := off1_mem off _ h2
  intro p hp q hq
  rcases List.mem_cons.mp hp with rfl | hp
  · simp only [List.mem_cons, List.not_mem_nil, or_false] at hq
    rcases hq with rfl | rfl
    · exact Ne.symm a
    · exact Ne.symm b
  · exact h p hp q hq
end Mine
namespace Mine
theorem any_mem (cs : List Int) (k : Int) : (cs.any fun x => x == k) = decide (k ∈ cs) := by
  rw [Bool.eq_iff_iff, List.any_eq_true, decide_eq_true_iff]
  exact ⟨fun ⟨x, h, e⟩ => by rw [beq_iff_eq] at e; exact e ▸ h, fun h => ⟨k, h, beq_self_eq_true k⟩⟩
end Mine
namespace Mine
theorem behind_dat {I tl : Led} {tp sl ac : Addr} {lv : Value} {n : Nat} {a : SndA} (ht : (tp, ({ cls := .type "tuple", data := .seq [.ref sl, lv, .ref ac].toArray n } : Obj)) ∈ tl) (hs : IntsIn tl sl a.sent) (hl : OptI lv a.la) (ha : RngIn (I ++ tl) ac a.ack) : DatIn (I ++ tl) (.ref tp) (datB a) :=
  DatIn.tuple (List.mem_append_right _ ht) (.cons (hs.mono fun p h => List.mem_append_right _ h).dat (.cons hl.dat (.cons ha.dat .nil)))
end Mine
namespace Mine
theorem ne_chain {e1 e2 e3 xl bx cm wd lf : Nat} {P : Prop} (c0 : e1 < e2) (c1 : e2 < e3) (c2 : e3 < xl) (c3 : xl < bx) (c4 : bx < cm) (c5 : cm < wd) (c6 : wd < lf) (k : NeA lf cm → NeA lf bx → NeA lf wd → NeA cm bx → NeA cm wd → NeA bx wd → NeA lf e3 → NeA lf e2 → NeA lf e1 → NeA cm e3 → NeA cm e2 → NeA cm e1 → NeA bx e3 → NeA bx e2 → NeA bx e1 → NeA wd e3 → NeA wd e2 → NeA wd e1 → NeA xl e3 → NeA xl e2 → NeA xl e1 → NeA lf xl → NeA cm xl → NeA bx xl → NeA wd xl → P) : P := by
  have e1e3 : e1 < e3 := Nat.lt_trans c0 c1
  have e2xl : e2 < xl := Nat.lt_trans c1 c2
  have e3bx : e3 < bx := Nat.lt_trans c2 c3
  have xlcm : xl < cm := Nat.lt_trans c3 c4
  have bxwd : bx < wd := Nat.lt_trans c4 c5
  have cmlf : cm < lf := Nat.lt_trans c5 c6
  have e1xl : e1 < xl := Nat.lt_trans c0 e2xl
  have e2bx : e2 < bx := Nat.lt_trans c1 e3bx
  have e3cm : e3 < cm := Nat.lt_trans c2 xlcm
  have xlwd : xl < wd := Nat.lt_trans c3 bxwd
  have bxlf : bx < lf := Nat.lt_trans c4 cmlf
  have e1bx : e1 < bx := Nat.lt_trans c0 e2bx
  have e2cm : e2 < cm := Nat.lt_trans c1 e3cm
  have e3wd : e3 < wd := Nat.lt_trans c2 xlwd
  have xllf : xl < lf := Nat.lt_trans c3 bxlf
  have e1cm : e1 < cm := Nat.lt_trans c0 e2cm
  have e2wd : e2 < wd := Nat.lt_trans c1 e3wd
  have e3lf : e3 < lf := Nat.lt_trans c2 xllf
  have e1wd : e1 < wd := Nat.lt_trans c0 e2wd
  have e2lf : e2 < lf := Nat.lt_trans c1 e3lf
  have e1lf : e1 < lf := Nat.lt_trans c0 e2lf
  exact k ⟨Nat.ne_of_gt cmlf⟩ ⟨Nat.ne_of_gt bxlf⟩ ⟨Nat.ne_of_gt c6⟩ ⟨Nat.ne_of_gt c4⟩ ⟨Nat.ne_of_lt c5⟩ ⟨Nat.ne_of_lt bxwd⟩ ⟨Nat.ne_of_gt e3lf⟩ ⟨Nat.ne_of_gt e2lf⟩ ⟨Nat.ne_of_gt e1lf⟩ ⟨Nat.ne_of_gt e3cm⟩ ⟨Nat.ne_of_gt e2cm⟩ ⟨Nat.ne_of_gt e1cm⟩ ⟨Nat.ne_of_gt e3bx⟩ ⟨Nat.ne_of_gt e2bx⟩ ⟨Nat.ne_of_gt e1bx⟩ ⟨Nat.ne_of_gt e3wd⟩ ⟨Nat.ne_of_gt e2wd⟩ ⟨Nat.ne_of_gt e1wd⟩ ⟨Nat.ne_of_gt c2⟩ ⟨Nat.ne_of_gt e2xl⟩ ⟨Nat.ne_of_gt e1xl⟩ ⟨Nat.ne_of_gt xllf⟩ ⟨Nat.ne_of_gt xlcm⟩ ⟨Nat.ne_of_gt c3⟩ ⟨Nat.ne_of_gt xlwd⟩
theorem nea1 {l : Led} {d e a : Addr} {o : Obj} (h : OwnOff l [d, e]) (m : (a, o) ∈ l) : NeA a d ∧ NeA a e := ⟨⟨h _ m d (.head _)⟩, ⟨h _ m e (.tail _ (.head _))⟩⟩
theorem ownTl {x : Addr × Obj} {l : Led} {d : List Addr} (h : OwnOff (x :: l) d) : OwnOff l d := fun p hp => h p (.tail _ hp)
theorem nea2 {x y : Addr} {o o' : Obj} {l : Led} {d e : Addr} {P : Prop} (h : OwnOff ((x, o) :: (y, o') :: l) [d, e]) (k : NeA x d → NeA x e → NeA y d → NeA y e → OwnOff l [d, e] → P) : P := k (nea1 h (.head _)).1 (nea1 h (.head _)).2 (nea1 (ownTl h) (.head _)).1 (nea1 (ownTl h) (.head _)).2 (ownTl (ownTl h))
theorem nea8 {a1 a2 a3 a4 a5 a6 a7 a8 d e : Addr} {o1 o2 o3 o4 o5 o6 o7 o8 : Obj} {tl : Led} {P : Prop} (h : OwnOff ((a1, o1) :: (a2, o2) :: (a3, o3) :: (a4, o4) :: (a5, o5) :: (a6, o6) :: (a7, o7) :: (a8, o8) :: tl) [d, e])
    (k : NeA a1 d → NeA a1 e → NeA a2 d → NeA a2 e → NeA a3 d → NeA a3 e → NeA a4 d → NeA a4 e → NeA a5 d → NeA a5 e → NeA a6 d → NeA a6 e → NeA a7 d → NeA a7 e → NeA a8 d → NeA a8 e → P) : P :=
  nea2 h fun x1 y1 x2 y2 h => nea2 h fun x3 y3 x4 y4 h => nea2 h fun x5 y5 x6 y6 h => nea2 h fun x7 y7 x8 y8 _ => k x1 y1 x2 y2 x3 y3 x4 y4 x5 y5 x6 y6 x7 y7 x8 y8
theorem letV {α : Type} {P : Prop} (a : α) (k : let e := a; P) : P := k
end Mine
end

section
open PySem PySem.W PyProof.Rows PySem.Calls PyProof.Rows.LCg PyProof.Rows.LCt PyProof.Rows.LCp
set_option maxRecDepth 100000
set_option maxHeartbeats 8000000
namespace Mine
local macro_rules | `(tactic| k_mem) => `(tactic| k_extra "mine:mem")
local macro_rules | `(tactic| walk_at "call builtin:list.append") => `(tactic| k_extra "mine:p1")
local macro_rules | `(tactic| walk_at "subscriptTail Name Constant ref int") => `(tactic| k_extra "mine:p32")
local macro_rules | `(tactic| walk_at "subscriptTail Subscript Constant ref int") => `(tactic| k_extra "mine:p33")
local macro_rules | `(tactic| walk_at "exec For Name Name cons nil") => `(tactic| k_extra "mine:for")
local macro_rules | `(tactic| walk_at "exec For Tuple Name cons nil") => `(tactic| k_extra "mine:for")
local macro_rules | `(tactic| walk_at "exec For Name Call cons nil") => `(tactic| k_extra "mine:p34")
local macro_rules | `(tactic| walk_at "exec For Name Subscript cons nil") => `(tactic| k_extra "mine:p35")
local macro_rules | `(tactic| walk_at "binaryOp Add ref ref") => `(tactic| k_extra "mine:p2")
local macro_rules | `(tactic| walk_at "call builtin:len cons") => `(tactic| k_extra "mine:p36")
local macro_rules | `(tactic| k_room) => `(tactic| ktr_room)
local macro_rules | `(tactic| k_units) => `(tactic| ktr_units)
local macro_rules | `(tactic| walk_at "eval ListComp") => `(tactic| k_extra "mine:p37")
local macro_rules | `(tactic| walk_at "newTuple") => `(tactic| k_extra "mine:p7")
local macro_rules | `(tactic| walk_at "newList") => `(tactic| k_extra "mine:p8")
local macro_rules | `(tactic| k_all) => `(tactic| k_extra "mine:ne")
local macro_rules | `(tactic| walk_at "subscriptTail Name Slice ref ref") => `(tactic| k_extra "mine:p38")
local macro_rules | `(tactic| walk_at "subscriptTail Attribute Slice ref ref") => `(tactic| k_extra "mine:rev")
local macro_rules | `(tactic| walk_at "subscriptTail BinOp Slice ref ref") => `(tactic| k_extra "mine:rev")
local macro_rules | `(tactic| walk_at "call type:list cons") => `(tactic| k_extra "mine:p39")
local macro_rules | `(tactic| walk_at "subscriptTail Name Name ref int") => `(tactic| k_extra "mine:itemL")
local macro_rules | `(tactic| k_enter) => `(tactic| first | k_extra "mine:enterL" | k_extra "mine:enterC")
local macro_rules | `(tactic| walk_at "compareOp NotIn str ref") => `(tactic| k_extra "mine:p12")
local macro_rules | `(tactic| walk_at "call builtin:sorted cons") => `(tactic| k_extra "mine:p40")
local macro_rules | `(tactic| walk_at "call builtin:min cons") => `(tactic| k_extra "mine:minD")
local macro_rules | `(tactic| walk_at "exec Assign cons ListComp") => `(tactic| k_extra "mine:p41")
local macro_rules | `(tactic| walk_at "compareOp In int ref") => `(tactic| k_extra "mine:p42")
local macro_rules | `(tactic| walk_at "call builtin:dict.pop") => `(tactic| k_extra "mine:popD")
local macro_rules | `(tactic| walk_at "call builtin:dict.pop cons") => `(tactic| k_extra "mine:popD")
local macro_rules | `(tactic| walk_at "compareOp NotEq ref ref") => `(tactic| k_extra "mine:p43")
local macro_rules | `(tactic| walk_at "compareOp Eq ref ref") => `(tactic| k_extra "mine:p44")
local macro_rules | `(tactic| walk_at "setItem ref int") => `(tactic| k_extra "mine:setD")
local macro_rules | `(tactic| walk_at "compareOp NotIn int ref") => `(tactic| k_extra "mine:notinI")
local macro_rules | `(tactic| walk_at "call builtin:max cons") => `(tactic| k_extra "mine:maxL")
local macro_rules | `(tactic| k_ne) => `(tactic| (refine neN ?_; (try dsimp only); first | (with_reducible assumption) | (with_reducible refine Ne.symm ?_; with_reducible assumption) | (with_reducible refine Nat.ne_of_lt ?_; k_extra "mine:and") | (with_reducible refine Nat.ne_of_gt ?_; k_extra "mine:and") | omega))
local macro_rules | `(tactic| k_lt $h:ident) => `(tactic| (replace $h := allLt_of $h; dsimp only [AllLt] at $h:ident))
local macro_rules | `(tactic| walk_at "execs cons") => `(tactic| k_extra "mine:fx")
local macro_rules | `(tactic| walk_at "call ref cons") => `(tactic| k_extra "mine:p45")
local macro_rules | `(tactic| walk_at "call ref") => `(tactic| k_extra "mine:p21")
local macro_rules | `(tactic| walk_at "pyIter ref") => `(tactic| k_extra "mine:p22")
local macro_rules | `(tactic| walk_at "CompSrcT") => `(tactic| k_extra "mine:p25")
local macro_rules | `(tactic| walk_at "Src2") => `(tactic| k_extra "mine:p26")
local macro_rules | `(tactic| walk_at "exec If BoolOp cons nil") => `(tactic| k_extra "mine:p27")
local macro_rules | `(tactic| walk_at "exec Assign cons IfExp") => `(tactic| k_extra "mine:p28")
local macro_rules | `(tactic| walk_at "exec If Compare cons nil") => `(tactic| k_extra "mine:p29")
example : True := by
  k_with "mine:om" =>
    first | decide | (with_reducible refine om2 ?_; decide) | (with_reducible refine om1 ?_; decide) | ((with_reducible apply om3); with_reducible assumption) | lia | omega
  k_with "mine:mem" =>
    with_reducible first | assumption | exact List.mem_cons_self | (refine List.mem_cons_of_mem _ ?_; k_extra "mine:mem") | (refine List.mem_append_left _ ?_; k_extra "mine:mem") | (refine List.mem_append_right _ ?_; k_extra "mine:mem")
  k_with "mine:subA" =>
    ((repeat (with_reducible first | exact sub_rfl | exact List.forall_mem_nil _ | exact sub_left | refine sub_cc ?_ | refine sub_aa ?_ | refine sub_skip ?_ | refine sub_al ?_)); done)
  k_with "mine:sub" =>
    with_reducible first | k_extra "mine:subA" | (refine List.forall_mem_cons.mpr (And.intro ?_ ?_); (· k_extra "mine:mem"); (· k_extra "mine:sub")) | (refine List.forall_mem_append.mpr (And.intro ?_ ?_) <;> k_extra "mine:sub") | (intro p9 hp9; k_extra "mine:mem")
  k_with "mine:binds" =>
    first | (with_reducible exact List.forall_mem_nil _) | ((with_reducible refine List.forall_mem_cons.mpr (And.intro ?_ ?_)); (· with_unfolding_all rfl); (· k_extra "mine:binds"))
  k_with "mine:same1" =>
    first | exact kst_same (by assumption) (by assumption) (by exact rfl) | (refine kst_sub (by assumption) (by decide) ?_; k_extra "mine:same1") | ((with_reducible refine same_ite (ne_ps (by assumption) (by k_extra "mine:mem")) ?_); k_extra "mine:same1") | ((with_reducible refine same_ite (ne_st (by assumption) (by k_extra "mine:mem")) ?_); k_extra "mine:same1")
  k_with "mine:same" =>
    (intro z9 h9 k9; (try dsimp only at h9 k9); k_extra "mine:same1")
  k_with "mine:size" =>
    first | (with_reducible refine le60 ?_; with_reducible assumption) | (refine Nat.le_trans ?_ (show 100000 ≤ PySem.sizeLine by rw [PySem.sizeLine_eq]; decide); (try simp only [List.length_append, List.length_cons, List.length_nil, List.size_toArray, List.length_take, List.length_drop, List.length_reverse, List.length_map]); k_extra "mine:om")
  k_with "mine:lt" =>
    with_reducible first | exact List.forall_mem_nil _ | (refine List.forall_mem_cons.mpr (And.intro ?_ ?_); (· simp only [AllLt] at *; k_extra "mine:om"); (· k_extra "mine:lt")) | (refine List.forall_mem_append.mpr (And.intro ?_ ?_) <;> k_extra "mine:lt") | (refine ktn_ltOf ?_; simp only [AllLt] at *; first | assumption | k_extra "mine:om") | assumption
  k_with "mine:p1" =>
    (k_here; (with_reducible show wpAny _ _ (call (Value.builtin _) [Value.ref _, _]) _ _ _); k_dflt (refine append_L (by k_asm) (by k_asm) (by k_upd) (by k_extra "mine:size") ?_); intro _ _ _)
  k_with "mine:item" =>
    (k_here; (with_reducible show wpAny _ _ (subscriptTail _ _ (Value.ref _) (Value.int _ _)) _ _ _); k_dflt (refine item_tupleT (by exact News.isTup (by k_asm) (by k_extra "mine:mem")) (by decide) (by decide) (by rfl) (by rfl) ?_; k_whole))
  k_with "mine:for" =>
    ((try k_fold); (rename Fr _ _ _ _ => lFz); refine For_turns lFz ?_)
  k_with "mine:k_lt" =>
    skip
  k_with "mine:p2" =>
    (k_here; (with_reducible show wpAny _ _ (binaryOp _ (Value.ref _) (Value.ref _)) _ _ _); k_dflt (refine add_L (by k_asm) (by k_asm) (by k_extra "mine:mem") (by k_extra "mine:mem") (by k_extra "mine:size") ?_); intro _ _ _ _ lAz; (have l1z := lAz); (try k_lt l1z); (try k_sweep))
  k_with "mine:p3" =>
    (k_here; (with_reducible show wpAny _ _ (call (Value.builtin "len") [Value.ref _]) _ _ _); k_dflt (refine len_L (by k_asm) (by k_extra "mine:mem") (by k_extra "mine:size") ?_))
  k_with "mine:enterL" =>
    (refine code_def (by k_asm) (by k_asm) (by k_asm) (by k_asm) (by k_asm) (by exact rfl) (by exact rfl) (by first | assumption | exact rfl) (by k_is) (by k_is) (by ktr_room) (by first | exact BindsTo.of_eq rfl | exact binds_K (by k_in) rfl (by k_is) rfl rfl rfl) (by exact locs rfl) ?_ (by exact rfl) (by exact rfl) (by exact rfl) (by decide); k_whole; intro _ _ _ _ _ _ Bz _ _; (try dsimp only); (try k_lift Bz); (try k_fold); (try k_extra "mine:lets"); (try k_extra "mine:letf"))
  k_with "mine:enterC" =>
    (refine code_defC (by k_asm) (by k_asm) (by k_asm) (by k_asm) (by k_asm) (by exact rfl) (by exact rfl) (by first | assumption | exact rfl) (by k_is) (by k_is) (by ktr_room) (by first | exact BindsTo.of_eq rfl | exact binds_K (by k_in) rfl (by k_is) rfl rfl rfl) (by exact rfl) (by decide +kernel) ?_ (by exact rfl) (by exact rfl) (by exact rfl); k_whole; intro _ _ _ _ _ _ _ Nz Yz Bz _ _ l1z; (have _ := l1z); (try k_lt l1z); k_cells Yz; (try dsimp only [List.cons_append, List.nil_append] at Nz); (try dsimp only); (try k_lift Bz); (try k_fold); (try k_extra "mine:lets"); (try k_extra "mine:letf"))
  k_with "mine:p4" =>
    (k_here; (with_reducible show wpAny _ _ (PySem.eval (PySem.Expr.ListComp _ [PySem.Comprehension.mk (PySem.Expr.Name _ _) _ [] _] _ _) _) _ _ _); k_dflt (refine LCg.ListComp_U (F₀ := by k_asm) (by with_unfolding_all rfl) (by decide) (by rfl) (by decide) (by rfl) ?_))
  k_with "mine:p5" =>
    (k_here; (with_reducible show wpAny _ _ (PySem.eval (PySem.Expr.ListComp _ [PySem.Comprehension.mk (PySem.Expr.Tuple [_, _] _ _) _ [] _] _ _) _) _ _ _); k_dflt (refine LCp.ListComp_P (F₀ := by k_asm) (by with_unfolding_all rfl) (by decide) (by rfl) (by decide) (by rfl) (by rfl) (by decide) ?_))
  k_with "mine:p6" =>
    (k_here; (with_reducible show wpAny _ _ (PySem.eval (PySem.Expr.ListComp _ [PySem.Comprehension.mk (PySem.Expr.Name _ _) _ [_] _] _ _) _) _ _ _); k_dflt (refine LCt.ListComp_T (F₀ := by k_asm) (by with_unfolding_all rfl) (by decide) (by rfl) (by decide) (by rfl) ?_))
  k_with "mine:units0" =>
    (refine Nat.lt_of_le_of_lt ?_ ‹_ < PySem.cLine›; (try simp only [depth_under_make, depth_under_kw, units_under_make, depth_in1, depth_deeper, units_in1, units_deeper]); (try dsimp only [ktrTop, Around.deeper, Around.in1]); k_extra "mine:om")
  k_with "mine:units" =>
    first | k_extra "mine:units0" | (dsimp only [ak']; k_extra "mine:units0")
  k_with "mine:room0" =>
    (refine Nat.lt_of_le_of_lt ?_ ‹_ < PySem.recursionLimit›; (try simp only [depth_under_make, depth_under_kw, units_under_make, depth_in1, depth_deeper, units_in1, units_deeper]); (try dsimp only [ktrTop, Around.deeper, Around.in1]); k_extra "mine:om")
  k_with "mine:room" =>
    first | k_extra "mine:room0" | (dsimp only [ak']; k_extra "mine:room0")
  k_with "mine:rng" =>
    first | assumption | (refine RngIn.mono (by assumption) (by k_extra "mine:sub"))
  k_with "mine:ints" =>
    first | assumption | (refine IntsIn.mono (by assumption) (by k_extra "mine:sub")) | exact Exists.intro _ (Exists.intro _ (And.intro (by k_extra "mine:mem") (by assumption)))
  k_with "mine:num" =>
    first | assumption | k_extra "mine:om" | ((simp only [keysOf, List.length_map, List.length_append, List.length_cons, List.length_nil]); k_extra "mine:om")
  k_with "mine:use" =>
    ((case mB => k_asm); (case mF => k_asm); (case mX => k_asm); (case mN => k_asm); (case mT => k_asm); (case mk => first | exact rfl | assumption); (case md => k_extra "mine:room"); (case mu => k_extra "mine:units"))
  k_with "mine:has" =>
    (k_here; (with_reducible show wpAny _ _ (call (Value.ref 65) _) _ _ _); (try k_fold); k_dflt (refine Con.use2 (by k_asm) (by k_asm) (by k_asm) (by k_asm) (by k_asm) (by first | exact rfl | assumption) (by k_extra "mine:room") (by k_extra "mine:units") (has_con (by k_extra "mine:rng") (by k_extra "mine:num")) ?_); intro _ _ _ _ _ Nz Pz; (obtain ⟨_, e1z, e2z, _⟩ := Pz); subst e1z e2z; (try dsimp only [List.cons_append, List.nil_append] at Nz); (try dsimp only); (try k_sweep))
  k_with "mine:p7" =>
    (k_here; k_dflt (refine kup_newTuple (by k_asm) (by k_asm) ?_ (by exact Nat.le_of_ble_eq_true rfl)); intro _ _ _ _ lAz; (have l1z := lAz); (try k_lt l1z); (try k_sweep))
  k_with "mine:p8" =>
    (k_here; k_dflt (refine newList_K (by k_asm) (by k_asm) ?_ (by exact Nat.le_of_ble_eq_true rfl)); intro _ _ _ _ lAz; (have l1z := lAz); (try k_lt l1z); (try k_sweep))
  k_with "mine:ne" =>
    first | (with_reducible exact List.forall_mem_nil _) | (refine ne_lt (by assumption) ?_; k_extra "mine:sub") | (with_reducible (refine ne_lt2 (by assumption) (by assumption) ?_; k_extra "mine:sub")) | (refine ne_off1 (by assumption) ?_; k_extra "mine:sub") | (refine ne_ab (by assumption) (by k_extra "mine:mem") ?_; k_extra "mine:sub") | (with_reducible (refine ne_abr (by assumption) (by k_extra "mine:mem") ?_; k_extra "mine:sub")) | (with_reducible (refine ne_own1 (by assumption) ?_; k_extra "mine:sub")) | (with_reducible (refine ne_own2 (by assumption) ?_; k_extra "mine:sub")) | (with_reducible (refine ne_own3 (by assumption) ?_; k_extra "mine:sub")) | ((with_reducible refine List.forall_mem_cons.mpr (And.intro ?_ ?_)); (· k_ne); (· k_extra "mine:ne")) | ((with_reducible refine List.forall_mem_append.mpr (And.intro ?_ ?_)) <;> k_extra "mine:ne")
  k_with "mine:ab" =>
    first | (with_reducible exact Ab.nil) | ((with_reducible refine Ab.cons ?_ ?_); (· k_extra "mine:ne"); (· k_extra "mine:ab")) | ((with_reducible refine Ab.app ?_ ?_); (· k_extra "mine:ab"); (· k_extra "mine:ab")) | (with_reducible (refine Ab.sub (by assumption) ?_; k_extra "mine:sub"))
  k_with "mine:pos" =>
    first | decide | (with_reducible exact Int.natCast_nonneg _) | k_extra "mine:om"
  k_with "mine:p9" =>
    (k_here; (with_reducible show wpAny _ _ (subscriptTail _ (PySem.Expr.Slice none (some _) none _) (Value.ref _) (Value.ref _)) _ _ _); k_dflt (refine sliceTo_L (by k_asm) (by k_asm) (by k_extra "mine:mem") (by k_extra "mine:pos") (by k_extra "mine:size") ?_ (by with_unfolding_all rfl) (by kmk_pure)); intro _ _ _ _ lAz; (have l1z := lAz); (try k_lt l1z); (try k_sweep))
  k_with "mine:p10" =>
    (k_here; (with_reducible show wpAny _ _ (subscriptTail _ (PySem.Expr.Slice (some _) none none _) (Value.ref _) (Value.ref _)) _ _ _); k_dflt (refine sliceFrom_L (by k_asm) (by k_asm) (by k_extra "mine:mem") (by k_extra "mine:pos") (by k_extra "mine:size") ?_ (by with_unfolding_all rfl) (by kmk_pure)); intro _ _ _ _ lAz; (have l1z := lAz); (try k_lt l1z); (try k_sweep))
  k_with "mine:rev" =>
    (k_here; (with_reducible show wpAny _ _ (subscriptTail _ (PySem.Expr.Slice none none (some _) _) (Value.ref _) (Value.ref _)) _ _ _); k_dflt (refine sliceRev_L (by k_asm) (by k_asm) (by k_extra "mine:mem") (by k_extra "mine:size") ?_ (by with_unfolding_all rfl) (by kmk_pure)); intro _ _ _ _ lAz; (have l1z := lAz); (try k_lt l1z); (try k_sweep))
  k_with "mine:p11" =>
    (k_here; (with_reducible show wpAny _ _ (call (Value.type _) [Value.ref _]) _ _ _); k_dflt (refine copy_L (by k_asm) (by k_asm) (by k_extra "mine:mem") (by k_extra "mine:size") ?_); intro _ _ _ _ _ lAz; (have l1z := lAz); (try k_lt l1z); (try k_sweep))
  k_with "mine:itemL" =>
    (k_here; (with_reducible show wpAny _ _ (subscriptTail _ _ (Value.ref _) (Value.int _ _)) _ _ _); k_dflt (refine item_L (by k_asm) (by k_extra "mine:mem") (by k_extra "mine:pos") (by k_extra "mine:pos") (by first | rfl | with_reducible assumption) ?_ (by with_unfolding_all rfl)))
  k_with "mine:addr" =>
    (k_here; (with_reducible show wpAny _ _ (call (Value.ref 60) _) _ _ _); (try k_fold); k_dflt (refine Con.use2 (by k_asm) (by k_asm) (by k_asm) (by k_asm) (by k_asm) (by first | exact rfl | assumption) (by k_extra "mine:room") (by k_extra "mine:units") (add_range_con (by k_extra "mine:rng") (by k_extra "mine:num") (by k_extra "mine:off")) ?_); intro _ _ _ _ _ Nz Pz; (obtain ⟨_, _, e1z, e2z, _, _⟩ := Pz); subst e1z e2z; (try dsimp only [List.cons_append, List.nil_append] at Nz); (try dsimp only); (try k_sweep))
  k_with "mine:offs" =>
    first | (with_reducible exact List.forall_mem_nil _) | ((with_reducible refine List.forall_mem_cons.mpr (And.intro ?_ ?_)); (· k_extra "mine:ne"); (· k_extra "mine:offs"))
  k_with "mine:off" =>
    first | assumption | (with_reducible (refine OwnOff.sub (by assumption) ?_; k_extra "mine:sub")) | ((with_reducible refine OwnOff.add ?_ ?_); (· k_extra "mine:off"); (· k_extra "mine:ne")) | ((with_reducible refine OwnOff.app ?_ ?_); (· k_extra "mine:off"); (· k_extra "mine:off")) | (refine off_of ?_; k_extra "mine:offs")
  k_with "mine:varint" =>
    (k_here; (with_reducible show wpAny _ _ (call (Value.ref 284) _) _ _ _); (try k_fold); k_dflt (refine Con.use2 (by k_asm) (by k_asm) (by k_asm) (by k_asm) (by k_asm) (by first | exact rfl | assumption) (by k_extra "mine:room") (by k_extra "mine:units") (varint_con (by k_extra "mine:num") (by k_extra "mine:num")) ?_); intro _ _ _ _ _ Nz Pz; (obtain ⟨_, e1z, e2z⟩ := Pz); subst e1z e2z; (try dsimp only [List.cons_append, List.nil_append] at Nz); (try dsimp only); (try k_sweep))
  k_with "mine:gaps" =>
    (k_here; (with_reducible show wpAny _ _ (call (Value.ref 291) _) _ _ _); (try k_fold); k_dflt (refine Con.use2 (by k_asm) (by k_asm) (by k_asm) (by k_asm) (by k_asm) (by first | exact rfl | assumption) (by k_extra "mine:room") (by k_extra "mine:units") (gaps_con (by k_extra "mine:rng") (by k_extra "mine:num")) ?_); intro _ _ _ _ _ Nz Pz; (obtain ⟨_, _, _, _, _, _, e1z, e2z, _, _, _⟩ := Pz); subst e1z e2z; (try dsimp only [List.cons_append, List.nil_append] at Nz); (try dsimp only); (try k_sweep))
  k_with "mine:strs" =>
    first | exact StrsAre.nil | exact StrsAre.cons _ _ StrsAre.nil | exact StrsAre.cons _ _ (StrsAre.cons _ _ StrsAre.nil) | exact StrsAre.cons _ _ (StrsAre.cons _ _ (StrsAre.cons _ _ StrsAre.nil))
  k_with "mine:p12" =>
    (k_here; k_dflt (refine notin_T (b := true) (by first | exact tupK (Frag.In.keeps (by k_asm) (Fr.keep (by k_asm))) (by k_is) | exact News.isTup (by k_asm) (by k_extra "mine:mem")) (by k_extra "mine:strs") (by decide +kernel) ?_))
  k_with "mine:newly" =>
    (k_here; (with_reducible show wpAny _ _ (call (Value.ref 77) _) _ _ _); (try k_fold); k_dflt (refine Con.use2 (by k_asm) (by k_asm) (by k_asm) (by k_asm) (by k_asm) (by first | exact rfl | assumption) (by k_extra "mine:room") (by k_extra "mine:units") (newly_con (by k_extra "mine:rng") (by k_extra "mine:num") (by k_extra "mine:ints") (by k_extra "mine:num")) ?_); intro _ _ _ _ _ Nz Pz; (obtain ⟨_, _, _, e1z, e2z, _, _, _, _⟩ := Pz); subst e1z e2z; (try dsimp only [List.cons_append, List.nil_append] at Nz); (try dsimp only); (try k_sweep))
  k_with "mine:lo" =>
    first | assumption | exact (SndOK.lo ‹_›)
  k_with "mine:numK" =>
    ((try simp only [keysOf, List.length_map, List.length_append, List.length_cons, List.length_nil] at *); k_extra "mine:om")
  k_with "mine:listD" =>
    (k_here; (with_reducible show wpAny _ _ (call (Value.type _) [Value.ref _]) _ _ _); k_dflt (refine listD (by rfl) (by k_asm) (by k_asm) (by k_extra "mine:mem") (by assumption) (by k_extra "mine:lo") (by k_extra "mine:num") ?_); intro _ _ _ _ _ _ _ lAz _; (have l1z := lAz); (try k_lt l1z); (try k_sweep))
  k_with "mine:sortedD" =>
    (k_here; (with_reducible show wpAny _ _ (call (Value.builtin "sorted") [Value.ref _]) _ _ _); k_dflt (refine sortedD (by rfl) (by k_asm) (by k_asm) (by k_extra "mine:mem") (by assumption) (by k_extra "mine:lo") (by k_extra "mine:num") ?_); intro _ _ _ _ _ _ _ _ lAz _ _ _; (have l1z := lAz); (try k_lt l1z); (try k_sweep))
  k_with "mine:minD" =>
    (k_here; (with_reducible show wpAny _ _ (call (Value.builtin "min") [Value.ref _]) _ _ _); k_dflt (refine minD (by rfl) (by k_asm) (by k_asm) (by k_extra "mine:mem") (by assumption) (by k_extra "mine:lo") (by k_extra "mine:num") ?_); intro _ _ _ _ _ _ _ _; (try k_sweep))
  k_with "mine:lenD" =>
    (k_here; (with_reducible show wpAny _ _ (call (Value.builtin "len") [Value.ref _]) _ _ _); k_dflt (refine lenD (by k_asm) (by k_extra "mine:mem") (by assumption) (by k_extra "mine:lo") (by k_extra "mine:num") ?_))
  k_with "mine:p13" =>
    first | k_extra "mine:lenD" | fail
  k_with "mine:sortedL" =>
    (k_here; (with_reducible show wpAny _ _ (call (Value.builtin "sorted") [Value.ref _]) _ _ _); k_dflt (refine sortedL (by k_asm) (by k_asm) (by k_extra "mine:mem") (by assumption) (by k_extra "mine:num") ?_); intro _ _ _ _ _ _ _ lAz _ _ _; (have l1z := lAz); (try k_lt l1z); (try k_sweep))
  k_with "mine:p14" =>
    (k_here; (with_reducible show wpAny _ _ (PySem.exec (PySem.Stmt.Assign _ (PySem.Expr.ListComp _ [PySem.Comprehension.mk (PySem.Expr.Name _ _) _ [] _] _ _) _) _) _ _ _); k_dflt (refine LCg.Assign_ListComp_U (F₀ := by k_asm) (by rfl) (by with_unfolding_all rfl) (by with_unfolding_all rfl) (by decide) (by rfl) (by decide) (by rfl) (by rfl) (by rfl) ?_))
  k_with "mine:p15" =>
    (k_here; (with_reducible show wpAny _ _ (PySem.exec (PySem.Stmt.Assign _ (PySem.Expr.ListComp _ [PySem.Comprehension.mk (PySem.Expr.Name _ _) _ [_] _] _ _) _) _) _ _ _); k_dflt (refine LCt.Assign_ListComp_T (F₀ := by k_asm) (by rfl) (by with_unfolding_all rfl) (by with_unfolding_all rfl) (by decide) (by rfl) (by decide) (by rfl) (by rfl) (by rfl) ?_))
  k_with "mine:p16" =>
    (k_here; (with_reducible show wpAny _ _ (PySem.exec (PySem.Stmt.Assign _ (PySem.Expr.ListComp _ [PySem.Comprehension.mk (PySem.Expr.Tuple [_, _] _ _) _ [] _] _ _) _) _) _ _ _); k_dflt (refine LCp.Assign_ListComp_P (F₀ := by k_asm) (by rfl) (by with_unfolding_all rfl) (by with_unfolding_all rfl) (by decide) (by rfl) (by decide) (by rfl) (by rfl) (by decide) (by rfl) (by rfl) ?_))
  k_with "mine:inD" =>
    (k_here; (with_reducible show wpAny _ _ (compareOp CmpOp.In (Value.int _ _) (Value.ref _)) _ _ _); k_dflt (refine inD (by k_asm) (by k_extra "mine:mem") (by assumption) (by k_extra "mine:lo") (by exact rfl) ?_))
  k_with "mine:popD" =>
    (k_here; (with_reducible show wpAny _ _ (call (Value.builtin "dict.pop") [Value.ref _, Value.int _ _]) _ _ _); k_dflt (refine popD (by k_asm) (by k_asm) (by k_updF) (by assumption) (by k_extra "mine:num") (by assumption) ?_); intro _ _ _ _ Nz _; (try dsimp only at Nz))
  k_with "mine:prune" =>
    (k_here; (with_reducible show wpAny _ _ (call (Value.ref 82) _) _ _ _); (try k_fold); k_dflt (refine Con.use2 (by k_asm) (by k_asm) (by k_asm) (by k_asm) (by k_asm) (by first | exact rfl | assumption) (by k_extra "mine:room") (by k_extra "mine:units") (prune_con (by k_extra "mine:rng") (by k_extra "mine:num")) ?_); intro _ _ _ _ _ Nz Pz; (obtain ⟨_, _, e1z, e2z, _, _⟩ := Pz); subst e1z e2z; (try dsimp only [List.cons_append, List.nil_append] at Nz); (try dsimp only); (try k_sweep))
  k_with "mine:stop60" =>
    (k_here; (with_reducible show wpAny _ _ (call (Value.ref 60) _) _ _ _); refine Stop.out ?_)
  k_with "mine:elic" =>
    (k_here; (with_reducible show wpAny _ _ (call (Value.ref 29) _) _ _ _); (try k_fold); k_dflt (refine Con.use2 (by k_asm) (by k_asm) (by k_asm) (by k_asm) (by k_asm) (by first | exact rfl | assumption) (by k_extra "mine:room") (by k_extra "mine:units") (elic_con (by k_extra "mine:mem")) ?_); intro _ _ _ _ _ _ Pz; (obtain ⟨e1z, e2z⟩ := Pz); subst e1z e2z; (try dsimp only); (try k_sweep))
  k_with "mine:flight" =>
    (k_here; (with_reducible show wpAny _ _ (call (Value.ref 36) _) _ _ _); (try k_fold); k_dflt (refine Con.use2 (by k_asm) (by k_asm) (by k_asm) (by k_asm) (by k_asm) (by first | exact rfl | assumption) (by k_extra "mine:room") (by k_extra "mine:units") (flight_con (by k_extra "mine:mem")) ?_); intro _ _ _ _ _ _ Pz; (obtain ⟨e1z, e2z⟩ := Pz); subst e1z e2z; (try dsimp only); (try k_sweep))
  k_with "mine:read" =>
    ked_read
  k_with "mine:neD" =>
    (k_here; (with_reducible show wpAny _ _ (compareOp CmpOp.NotEq (Value.ref _) (Value.ref _)) _ _ _); k_dflt (refine ne_dataH (by k_extra "mine:read") (by k_extra "mine:read") (by ked_shaped) (by ked_shaped) (by k_extra "mine:units") ?_); ked_norm)
  k_with "mine:eqD" =>
    (k_here; (with_reducible show wpAny _ _ (compareOp CmpOp.Eq (Value.ref _) (Value.ref _)) _ _ _); k_dflt (refine eq_dataH (by k_extra "mine:read") (by k_extra "mine:read") (by ked_shaped) (by ked_shaped) (by k_extra "mine:units") ?_); ked_norm)
  k_with "mine:anyel" =>
    (k_here; (with_reducible show wpAny _ _ (call (Value.ref 41) _) _ _ _); (try k_fold); k_dflt (refine Con.use2 (by k_asm) (by k_asm) (by k_asm) (by k_asm) (by k_asm) (by first | exact rfl | assumption) (by k_extra "mine:room") (by k_extra "mine:units") (anyel_con (by k_extra "mine:mem") (by k_extra "mine:mem")) ?_); intro _ _ _ _ _ _ Pz; (obtain ⟨e1z, e2z⟩ := Pz); subst e1z e2z; (try dsimp only); (try k_sweep))
  k_with "mine:anyfl" =>
    (k_here; (with_reducible show wpAny _ _ (call (Value.ref 46) _) _ _ _); (try k_fold); k_dflt (refine Con.use2 (by k_asm) (by k_asm) (by k_asm) (by k_asm) (by k_asm) (by first | exact rfl | assumption) (by k_extra "mine:room") (by k_extra "mine:units") (anyfl_con (by k_extra "mine:mem") (by k_extra "mine:mem")) ?_); intro _ _ _ _ _ _ Pz; (obtain ⟨e1z, e2z⟩ := Pz); subst e1z e2z; (try dsimp only); (try k_sweep))
  k_with "mine:setD" =>
    (k_here; (with_reducible show wpAny _ _ (setItem (Value.ref _) (Value.int _ _) _) _ _ _); k_dflt (refine setD (by k_asm) (by k_asm) (by k_updF) (by assumption) (by k_extra "mine:num") ?_); intro _ _ _ Nz _; (try dsimp only at Nz))
  k_with "mine:sentp" =>
    (k_here; (with_reducible show wpAny _ _ (call (Value.ref 100) _) _ _ _); (try k_fold); k_dflt (refine Con.use2 (by k_asm) (by k_asm) (by k_asm) (by k_asm) (by k_asm) (by first | exact rfl | assumption) (by k_extra "mine:room") (by k_extra "mine:units") (sentp_con (by k_extra "mine:mem") (by k_extra "mine:mem")) ?_); intro _ _ _ _ _ Nz Pz; (obtain ⟨_, _, e1z, e2z, _, pkz⟩ := Pz); subst e1z e2z; cases pkz; (try simp only [List.cons_append, List.nil_append, List.append_nil] at Nz); (try dsimp only); (try k_sweep))
  k_with "mine:stop" =>
    (k_here; (with_reducible show wpAny _ _ (call (Value.ref _) _) _ _ _); refine Stop.out ?_)
  k_with "mine:use7" =>
    ((case mB7 => k_asm); (case mX7 => k_asm); (case mT7 => k_asm); (case mk7 => first | exact rfl | assumption); (case md7 => k_extra "mine:room"); (case mu7 => k_extra "mine:units"))
  k_with "mine:stopc" =>
    (k_here; (with_reducible show wpAny _ _ (compareOp _ (Value.ref _) (Value.ref _)) _ _ _); refine Stop.out ?_)
  k_with "mine:listR" =>
    (k_here; (with_reducible show wpAny _ _ (call (Value.type _) [Value.ref _]) _ _ _); k_dflt (refine listR (by rfl) (by k_asm) (by k_asm) (by assumption) (by k_extra "mine:om") ?_); intro _ _ _ _ _ _ _ lAz _; (have l1z := lAz); (try k_lt l1z); (try k_sweep))
  k_with "mine:inI" =>
    (k_here; (with_reducible show wpAny _ _ (compareOp CmpOp.In (Value.int _ _) (Value.ref _)) _ _ _); k_dflt (refine inI (by k_asm) (by k_extra "mine:mem") (by assumption) (by first | k_extra "mine:units" | k_extra "mine:un8") ?_))
  k_with "mine:notinI" =>
    (k_here; (with_reducible show wpAny _ _ (compareOp CmpOp.NotIn (Value.int _ _) (Value.ref _)) _ _ _); k_dflt (refine notinI (by k_asm) (by k_extra "mine:mem") (by assumption) (by first | k_extra "mine:units" | k_extra "mine:un8") ?_))
  k_with "mine:maxL" =>
    (k_here; (with_reducible show wpAny _ _ (call (Value.builtin "max") [Value.ref _]) _ _ _); k_dflt (refine maxL (by rfl) (by k_asm) (by k_asm) (by k_extra "mine:mem") (by assumption) (by k_extra "mine:num") ?_); intro _ _ _ _ _ _ _ _; (try k_sweep))
  k_with "mine:and" =>
    with_reducible first | assumption | exact And.left (by assumption) | exact And.left (And.right (by assumption)) | exact And.left (And.right (And.right (by assumption))) | exact And.left (And.right (And.right (And.right (by assumption)))) | exact And.left (And.right (And.right (And.right (And.right (by assumption))))) | exact And.left (And.right (And.right (And.right (And.right (And.right (by assumption)))))) | exact And.left (And.right (And.right (And.right (And.right (And.right (And.right (by assumption))))))) | exact And.left (And.right (And.right (And.right (And.right (And.right (And.right (And.right (by assumption))))))))
  k_with "mine:lets" =>
    ((refine letE ?_; intro ev'); (refine letA ?_; intro ak'))
  k_with "mine:un8" =>
    first | ktr_units | (dsimp only [ak']; ktr_units)
  k_with "mine:letf" =>
    ((rename Fr _ _ _ _ => Fzz); refine letF Fzz ?_; clear Fzz; intro _ _)
  k_with "mine:fl" =>
    first | (dsimp only; done) | exact rfl
  k_with "mine:fx" =>
    (k_here; (with_reducible show wpAny _ _ (PySem.execs _ _) _ _ (PySem.Shared.mk _ _ _ _ _)); refine flat2 (by k_extra "mine:fl") (by k_extra "mine:fl") (by k_extra "mine:fl") (by k_extra "mine:fl") ?_; refine wpAny_execs_cons ?_)
  k_with "mine:ackof" =>
    (k_here; (with_reducible show wpAny _ _ (call (Value.ref 72) _) _ _ _); refine Stop.out ?_)
  k_with "mine:stopj" =>
    ((fail_if_success (with_reducible show wpAny _ _ _ (JoinEnd _ _ _ _ _ _) _ _)); with_reducible (refine Stop.out ?_))
  k_with "mine:p17" =>
    ((with_reducible rename Md 100 => zz9z); k_extra "mine:sentp")
  k_with "mine:p18" =>
    ((with_reducible rename Md 60 => zz9z); k_extra "mine:stop60")
  k_with "mine:p19" =>
    ((with_reducible rename Md 3 => zz9z); k_extra "mine:stop")
  k_with "mine:p20" =>
    ((with_reducible rename Md 1 => zz9z); k_extra "mine:stop")
  k_with "mine:p21" =>
    ((with_reducible rename Md 1 => zz9z); k_extra "mine:stop")
  k_with "mine:p22" =>
    ((with_reducible rename Md 4 => zz9z); (refine Stop.out ?_))
  k_with "mine:p23" =>
    ((with_reducible rename Md 5 => zz9z); k_extra "mine:stopc")
  k_with "mine:p24" =>
    ((with_reducible rename Md 6 => zz9z); k_extra "mine:stopc")
  k_with "mine:p25" =>
    ((with_reducible rename Md 7 => zz9z); (with_reducible (refine Stop.out ?_)))
  k_with "mine:p26" =>
    ((with_reducible rename Md 7 => zz9z); (with_reducible (refine Stop.out ?_)))
  k_with "mine:p27" =>
    ((with_reducible rename Md 7 => zz9z); k_extra "mine:stopj")
  k_with "mine:p28" =>
    ((with_reducible rename Md 7 => zz9z); k_extra "mine:stopj")
  k_with "mine:p29" =>
    ((with_reducible rename Md 3 => zz9z); (with_reducible show wpAny _ _ (PySem.exec (PySem.Stmt.If (PySem.Expr.Compare (PySem.Expr.Name (Str.ofString "mark") _) _ _ _) _ _ _) _) _ _ _); with_reducible (refine Stop.out ?_))
  k_with "mine:p30" =>
    ((with_reducible rename Md 8 => zz9z); (refine Stop.out ?_))
  k_with "mine:p31" =>
    ((with_reducible rename Md 9 => zz9z); (refine Stop.out ?_))
  k_with "mine:p32" =>
    first | k_extra "mine:item" | k_extra "mine:itemL" | k_extra "mine:item"
  k_with "mine:p33" =>
    first | k_extra "mine:item" | k_extra "mine:itemL" | k_extra "mine:item"
  k_with "mine:p34" =>
    first | k_extra "mine:p30" | k_extra "mine:for"
  k_with "mine:p35" =>
    first | k_extra "mine:p31" | k_extra "mine:for"
  k_with "mine:p36" =>
    first | k_extra "mine:p13" | k_extra "mine:p3"
  k_with "mine:p37" =>
    first | k_extra "mine:p6" | k_extra "mine:p5" | k_extra "mine:p4"
  k_with "mine:p38" =>
    first | k_extra "mine:rev" | k_extra "mine:p10" | k_extra "mine:p9"
  k_with "mine:p39" =>
    first | k_extra "mine:listR" | k_extra "mine:listD" | k_extra "mine:p11"
  k_with "mine:p40" =>
    first | k_extra "mine:sortedL" | k_extra "mine:sortedD"
  k_with "mine:p41" =>
    first | k_extra "mine:p16" | k_extra "mine:p15" | k_extra "mine:p14"
  k_with "mine:p42" =>
    first | k_extra "mine:inI" | k_extra "mine:inD"
  k_with "mine:p43" =>
    first | k_extra "mine:p23" | k_extra "mine:neD"
  k_with "mine:p44" =>
    first | k_extra "mine:p24" | k_extra "mine:eqD"
  k_with "mine:p45" =>
    first | k_extra "mine:p20" | k_extra "mine:p19" | k_extra "mine:p18" | k_extra "mine:has" | k_extra "mine:newly" | k_extra "mine:ackof" | k_extra "mine:varint" | k_extra "mine:gaps" | k_extra "mine:p17" | k_extra "mine:prune" | k_extra "mine:elic" | k_extra "mine:flight" | k_extra "mine:anyel" | k_extra "mine:anyfl" | k_extra "mine:addr"
  exact trivial
section
theorem reset_1 : True := by
  w_top off
  exact trivial
theorem has_con {w mean mg mb} {l : Addr} {x : Int} {t : Tok} {ps : List P2} {I : Led} (hr : RngIn I l ps) (hlen : ps.length ≤ 1000) :
   Con w mean mg mb 65 2 40 I [.ref l, .int x t] (fun r N => ∃ tl, r = .bool (hasNum ps x) ∧ N = I ++ tl ∧ Ab I tl) := by
  obtain ⟨vs, n, hl, hps⟩ := hr
  have hvl : vs.length = ps.length := hps.length
  intro dp un gd cn cs a ccd cl outer A₀ base h₀ L m sh sg sk st so Q E B F X N T hk hd hu hret
  refine wpAny_call ?_
  k_dflt (k_extra "mine:enterC")
  k_steps
  rename Fr _ _ _ _ => F1; rename News _ _ _ _ => N1
  refine SrcLP.ledger (k := n) (by rfl) F1 N1 (by k_extra "mine:mem") (by k_extra "mine:size") ?_
  intro g9
  refine restP_ind (fun i ys nw => ys = (ps.take i).map (fun p => Value.bool (decide (p.1 ≤ x ∧ x ≤ p.2))) ∧ nw = _) ⟨rfl, rfl⟩ ?_ ?_
  · rintro i ys nw hi ⟨hys, rfl⟩ v hv
    obtain ⟨p, hp, hpi⟩ := hps.get (by simpa using hv)
    cases hpi with | @mk ta px py pt pu pn hm =>
    refine ⟨ta, _, _, _, pn, rfl, List.mem_cons_of_mem _ hm, rfl, rfl, ?_⟩
    intro it oit C oC D m₂ h9 tk9 E9 hoC hx1 hx2 F2 N2 off ne
    k_steps
    all_goals (refine CompEnd.intro F2 N2 _ (by k_extra "mine:sub") off (.inr ⟨_, List.mem_cons_of_mem _ hl, rfl, n, rfl⟩) ⟨?_, rfl⟩)
    all_goals (rw [map_take_succ _ hp, ← hys]; refine congrArg (fun z => ys ++ [z]) (congrArg Value.bool ?_))
    · exact decide_eq_decide.mpr ⟨fun h => ⟨by assumption, h⟩, fun h => h.2⟩
    · exact decide_eq_decide.mpr ⟨fun h => absurd h (by assumption), fun h => h.1⟩
  · rintro ys nw ⟨hys, rfl⟩
    k_steps
    rename Fr _ _ _ _ => F2; rename News _ _ _ _ => N2
    refine LSm.any_bools F2 N2 (by rfl) (isL N2 (by k_extra "mine:mem")) (bs := ps.map fun p => decide (p.1 ≤ x ∧ x ≤ p.2)) ?_ ?_
    · rw [hys, List.size_toArray, hvl, List.take_length]
      exact boolsAre_map _ _
    · intro h9 tk9 F9 N9
      k_steps
      rename Fr _ _ _ _ => F3; rename News _ _ _ _ => N3
      rw [hasNum_any]
      refine hret _ (I ++ []) _ _ F3 (cb_drop N3 (by k_extra "mine:sub")) ⟨[], rfl, rfl, Ab.nil⟩
end
section
local macro_rules | `(tactic| walk_at "mine:dummy") => `(tactic| skip)
theorem reset_2 : True := by
  w_top off
  exact trivial
set_option genSizeOf false in
set_option genInjectivity false in
structure ArC where
  fv : List Value
  n : Nat
  s : ArS
  lt : Tok
  ht : Tok

theorem add_range_con {w mean mg mb} {l : Addr} {lo hi : Int} {t1 t2 : Tok} {ps : List (Int × Int)} {M I : Led}
   (hr : RngIn I l ps) (hlen : ps.length ≤ 1000) (hM : OwnOff I (M.map (·.1))) :
   Con w mean mg mb 60 2 40 (M ++ I) [.ref l, .int lo t1, .int hi t2]
     (fun r N => ∃ a tl, r = .ref a ∧ N = M ++ (I ++ tl) ∧ Ab (M ++ I) tl ∧ RngIn (I ++ tl) a (addRange ps lo hi)) := by
  obtain ⟨vs, n, hl, hps⟩ := hr
  have hvl : vs.length = ps.length := hps.length
  intro dp un gd cn cs a ccd cl outer A₀ base h₀ L m sh sg sk st so Q E B F X N T hk hd hu hret
  refine wpAny_call ?_
  k_dflt (k_extra "mine:enterL")
  k_steps
  rename News _ _ _ _ => N1
  rename Fr _ _ _ _ => F1
  rename_i fa _ l1 _ _ _ _ _ _
  refine floop_list (σ := ArC) (fun c => (fa, listOf c.fv.toArray c.n) :: M) (fun c => [("found", .ref fa), ("is_in", .bool c.s.b), ("low", .int c.s.lo c.lt), ("high", .int c.s.hi c.ht)]) ["one"] (fun i c I => c.s = (ps.take i).foldl arStep ⟨[], false, lo, hi⟩ ∧ PairsIn I c.fv c.s.f ∧ c.fv.length ≤ 2 * i) (fa :: M.map (·.1)) ⟨[], 0, ⟨[], false, lo, hi⟩, t1, t2⟩ I rfl hl F1 N1 ?_ ?_ ?_ ?_ ?_ ?_ ?_
  · k_extra "mine:sub"
  · intro c; rfl
  · k_extra "mine:off"
  · k_extra "mine:binds"
  · exact ⟨rfl, .nil, Nat.le_refl _⟩
  · rintro i v c add u h' tk own Q9 hQ9 hv hab hoo hoo2 ⟨hs, hf, hfl⟩ F1 N1
    obtain ⟨p, hp, hpi⟩ := hps.get hv
    have hi1 : i < ps.length := (List.getElem?_eq_some_iff.mp hp).1
    have hpi' := hpi.mono (J := add ++ I) (fun p hp => List.mem_append_right _ hp)
    cases hpi' with | @mk a x y t u n hm =>
    dsimp only [List.cons_append, List.nil_append] at N1
    obtain ⟨fv, n, ⟨f, b, lo', hi'⟩, lt, ht⟩ := c
    dsimp only at *
    try dsimp only
    refine letF F1 ?_
    clear F1
    intro mF1 F1
    k_steps
    all_goals (rename Fr _ _ _ _ => F2; rename News _ _ _ _ => N2)
    · refine' hQ9 _ _ (LEnd.intro ⟨_, _, ⟨f ++ [(x, y)], b, lo', hi'⟩, _, _⟩ [] F2 N2 ?mK ?mN ?mA ?mS ?mP)
      case mK => k_extra "mine:binds"
      case mN => k_extra "mine:sub"
      case mA => exact Ab.nil
      case mS => k_extra "mine:same"
      case mP => exact ⟨by rw [foldl_take_succ _ _ hp, ← hs, arStep_1 (by assumption)], hf.snoc (.mk hm), by simp; k_extra "mine:om"⟩
    · refine' hQ9 _ _ (LEnd.intro ⟨_, _, ⟨f ++ [(x, y)], b, lo', hi'⟩, _, _⟩ [] F2 N2 ?mK ?mN ?mA ?mS ?mP)
      case mK => k_extra "mine:binds"
      case mN => k_extra "mine:sub"
      case mA => exact Ab.nil
      case mS => k_extra "mine:same"
      case mP => exact ⟨by rw [foldl_take_succ _ _ hp, ← hs, arStep_2 (by assumption) (by assumption) (by assumption)], hf.snoc (.mk hm), by simp; k_extra "mine:om"⟩
    · refine' hQ9 _ _ (LEnd.intro ⟨_, _, ⟨(f ++ [(lo', hi')]) ++ [(x, y)], true, lo', hi'⟩, _, _⟩ [?mq] F2 N2 ?mK ?mN ?mA ?mS ?mP)
      case mK => k_extra "mine:binds"
      case mN => k_extra "mine:sub"
      case mA => k_extra "mine:ab"
      case mS => k_extra "mine:same"
      case mP => exact ⟨by rw [foldl_take_succ _ _ hp, ← hs, arStep_3 (by assumption) (by assumption) (by assumption)], ((hf.mono (fun p h => List.mem_append_right _ h)).snoc (.mk List.mem_cons_self)).snoc (.mk (List.mem_append_right _ hm)), by simp; k_extra "mine:om"⟩
    · refine' hQ9 _ _ (LEnd.intro ⟨_, _, ⟨f, b, if x < lo' then x else lo', if y > hi' then y else hi'⟩, _, _⟩ [] F2 N2 ?mK ?mN ?mA ?mS ?mP)
      case mK => k_extra "mine:binds"
      case mN => k_extra "mine:sub"
      case mA => exact Ab.nil
      case mS => k_extra "mine:same"
      case mP => exact ⟨by rw [foldl_take_succ _ _ hp, ← hs, arStep_4 (by assumption) (by assumption)], hf, by simp; k_extra "mine:om"⟩
  · rintro c add u h' tk hab hoo ⟨hs, hf, hfl⟩ F1 N1
    obtain ⟨fv, n, ⟨f, b, lo', hi'⟩, lt, ht⟩ := c
    dsimp only [List.cons_append, List.nil_append] at N1
    dsimp only at *
    try dsimp only
    refine letF F1 ?_
    clear F1
    intro mF2 F1
    k_steps
    all_goals (rename Fr _ _ _ _ => F2; rename News _ _ _ _ => N2)
    all_goals have hs' : ps.foldl arStep ⟨[], false, lo, hi⟩ = ⟨f, b, lo', hi'⟩ := by rw [hs, hvl, List.take_length]
    · refine' hret _ (M ++ (I ++ (fa, listOf fv.toArray n) :: add)) _ _ F2 (cb_drop N2 ?mS) ⟨_, _, rfl, rfl, ?mA, fv, n, ?mM, ?mP⟩
      case mS => k_extra "mine:sub"
      case mA => k_extra "mine:ab"
      case mM => k_extra "mine:mem"
      case mP =>
        simp only [addRange, hs', if_pos ‹b = true›]
        exact hf.mono (by k_extra "mine:sub")
    · refine' hret _ (M ++ (I ++ (?mc, listOf (fv ++ [Value.ref ?mD]).toArray 0) :: (?mD, pairObj lo' hi' lt ht 0) :: add)) _ _ F2 (cb_drop N2 ?mS) ⟨_, _, rfl, rfl, ?mA, fv ++ [Value.ref ?mD], 0, ?mM, ?mP⟩
      case mS => k_extra "mine:sub"
      case mA => k_extra "mine:ab"
      case mM => k_extra "mine:mem"
      case mP =>
        simp only [addRange, hs', ‹b = false›, Bool.false_eq_true, if_false]
        exact (hf.mono (by k_extra "mine:sub")).snoc (.mk (by k_extra "mine:mem"))
end
section
theorem reset_3 : True := by
  w_top off
  exact trivial
theorem prune_con {w mean mg mb} {l : Addr} {x : Int} {t : Tok} {ps : List P2} {I : Led} (hr : RngIn I l ps) (hlen : ps.length ≤ 1000) :
   Con w mean mg mb 82 2 40 I [.ref l, .int x t] (fun r N => ∃ a tl, r = .ref a ∧ N = I ++ tl ∧ Ab I tl ∧ RngIn tl a (pruneR ps x)) := by
  obtain ⟨vs, n, hl, hps⟩ := hr
  have hvl : vs.length = ps.length := hps.length
  intro dp un gd cn cs a ccd cl outer A₀ base h₀ L m sh sg sk st so Q E B F X N T hk hd hu hret
  refine wpAny_call ?_
  k_dflt (k_extra "mine:enterC")
  k_steps
  rename Fr _ _ _ _ => F1; rename News _ _ _ _ => N1
  refine CompSrcT.ledger (k := n) (by rfl) F1 N1 (by k_extra "mine:mem") (by k_extra "mine:size") ?_
  intro g9
  refine restT (fun i ys tl => PairsIn tl ys (pruneR (ps.take i) x)) (srcAt_led (n := n) (by k_extra "mine:mem")) .nil ?_ ?_
  · rintro i ys tl hi9 hab hys v it oit C oC D m₂ h9 tk9 E9 hv hoC hx1 F2 N2 off ne
    obtain ⟨p, hp, hpi⟩ := hps.get (by simpa using hv)
    cases hpi with | @mk ta px py pt pu pn hm =>
    k_steps
    all_goals (rename Fr _ _ _ _ => F3; rename News _ _ _ _ => N3)
    · refine' TEnd.intro [?mq] F3 N3 ?mS ?mA ?mR
      case mS => k_extra "mine:sub"
      case mA => k_extra "mine:ab"
      rw [pruneR_yes hp (by assumption)]
      exact (hys.mono (by k_extra "mine:sub")).snoc (.mk (List.mem_append_right _ List.mem_cons_self))
    · refine TEnd.intro [] F3 N3 (by k_extra "mine:sub") (by k_extra "mine:ab") ?_
      rw [pruneR_no hp (by assumption), List.append_nil]
      exact hys
  · rintro ys tl hab hys
    k_steps
    rename Fr _ _ _ _ => F3; rename News _ _ _ _ => N3
    refine' hret _ (I ++ (?mD, lst ys) :: tl) _ _ F3 (cb_drop N3 ?mS) ⟨_, _, rfl, rfl, ?mA, ys, _, ?mM, ?mP⟩
    case mS => k_extra "mine:sub"
    case mA => k_extra "mine:ab"
    case mM => k_extra "mine:mem"
    case mP =>
      rw [List.size_toArray, hvl, List.take_length] at hys
      exact hys.mono (by k_extra "mine:sub")
end
section
local macro_rules | `(tactic| walk_at "mine:dummy") => `(tactic| skip)
theorem reset_4 : True := by
  w_top off
  exact trivial
theorem varint_con {w mean mg mb} {x : Int} {t : Tok} {I : Led} (h0 : 0 ≤ x) (h1 : x < 64) :
   Con w mean mg mb 284 2 40 I [.int x t] (fun r N => ∃ u, r = .int 1 u ∧ N = I) := by
  intro dp un gd cn cs a ccd cl outer A₀ base h₀ L m sh sg sk st so Q E B F X N T hk hd hu hret
  refine wpAny_call ?_
  k_dflt (k_extra "mine:enterL")
  k_steps
  · rename Fr _ _ _ _ => F1; rename News _ _ _ _ => N1
    exact hret _ I _ _ F1 (cb_drop N1 (by k_extra "mine:sub")) ⟨_, rfl, rfl⟩
  · exfalso
    rename ¬ _ < _ => a9
    exact a9 (by simpa using h1)
end
section
theorem reset_5 : True := by
  w_top off
  exact trivial
set_option genSizeOf false in
set_option genInjectivity false in
structure GpC where
  fv : List Value
  n : Nat
  f : List P2
  bf : Int
  bt : Tok
theorem gaps_con {w mean mg mb} {l : Addr} {lo hi : Int} {ps : List P2} {I : Led} (hr : RngIn I l ((lo, hi) :: ps)) (hlen : ps.length ≤ 1000) :
   Con w mean mg mb 291 2 40 I [.ref l] (fun r N => ∃ a fl t1 t2 n tl, r = .ref a ∧ N = I ++ tl ∧ Ab I tl ∧ (a, ({ cls := .type "tuple", data := .seq [.int hi t1, .int (hi - lo) t2, .ref fl].toArray n } : Obj)) ∈ N ∧ RngIn N fl (gapsOf lo ps)) := by
  obtain ⟨vs, n, hl, hps⟩ := hr
  cases hps with | @cons v0 vs _ _ h0 hps =>
  cases h0 with | @mk a0 _ _ t0 u0 n0 hm0 =>
  have hvl : vs.length = ps.length := hps.length
  intro dp un gd cn cs a ccd cl outer A₀ base h₀ L m sh sg sk st so Q E B F X N T hk hd hu hret
  refine wpAny_call ?_
  k_dflt (k_extra "mine:enterL")
  k_steps
  rename Fr _ _ _ _ => F1; rename News _ _ _ _ => N1
  rename_i fa _ lA9 _ _ _ _ _ _ _ _ da _
  rw [show (Value.ref a0 :: vs).drop (Int.toNat 1) = vs from rfl] at N1
  refine floop_list (σ := GpC) (vs := vs) (nn := 0) (fun c => [(fa, listOf c.fv.toArray c.n)]) (fun c => [("found", .ref fa), ("before", .int c.bf c.bt)]) ["one"] (fun i c I => c.bf = lastLo lo (ps.take i) ∧ c.f = gapsOf lo (ps.take i) ∧ PairsIn I c.fv c.f ∧ c.fv.length ≤ i) [fa] ⟨[], 0, [], lo, t0⟩ ((da, listOf vs.toArray 0) :: I) rfl ?_ F1 N1 ?_ ?_ ?_ ?_ ?_ ?_ ?_
  · k_extra "mine:mem"
  · k_extra "mine:sub"
  · intro c; rfl
  · k_extra "mine:off"
  · k_extra "mine:binds"
  · exact ⟨rfl, rfl, .nil, Nat.le_refl _⟩
  · rintro i v c add u h' tk own Q9 hQ9 hv hab hoo hoo2 ⟨hbf, hf, hfp, hfl⟩ F1 N1
    obtain ⟨p, hp, hpi⟩ := hps.get hv
    have hi1 : i < ps.length := (List.getElem?_eq_some_iff.mp hp).1
    have hpi' := hpi.mono (J := add ++ ((da, listOf vs.toArray 0) :: I)) (by k_extra "mine:sub")
    cases hpi' with | @mk a x y t u n hm =>
    dsimp only [List.cons_append, List.nil_append] at N1
    obtain ⟨fv, n, f, bf, bt⟩ := c
    dsimp only at *
    try dsimp only
    refine letF F1 ?_
    clear F1
    intro mF9 F1
    k_steps
    all_goals (rename Fr _ _ _ _ => F2; rename News _ _ _ _ => N2)
    refine' hQ9 _ _ (LEnd.intro ⟨_, _, f ++ [(bf - y - 2, y - x)], x, _⟩ [?mq] F2 N2 ?mK ?mN ?mA ?mS ?mP)
    case mK => k_extra "mine:binds"
    case mN => k_extra "mine:sub"
    case mA => k_extra "mine:ab"
    case mS => k_extra "mine:same"
    case mP =>
      refine ⟨?_, ?_, (hfp.mono (by k_extra "mine:sub")).snoc (.mk (by k_extra "mine:mem")), ?_⟩
      · rw [take_succ_snoc hp, lastLo_snoc]
      · rw [take_succ_snoc hp, gapsOf_snoc, ← hf, ← hbf]
      · simp; k_extra "mine:om"
  · rintro c add u h' tk hab hoo ⟨hbf, hf, hfp, hfl⟩ F1 N1
    obtain ⟨fv, n, f, bf, bt⟩ := c
    dsimp only [List.cons_append, List.nil_append] at N1
    dsimp only at *
    try dsimp only
    refine letF F1 ?_
    clear F1
    intro mF10 F1
    k_steps
    all_goals (rename Fr _ _ _ _ => F2; rename News _ _ _ _ => N2)
    refine' hret _ (I ++ (?mD, ({ cls := .type "tuple", data := .seq [Value.int hi _, Value.int (hi - lo) _, Value.ref fa].toArray _ } : Obj)) :: (fa, listOf fv.toArray n) :: (da, listOf vs.toArray 0) :: add) _ _ F2 (cb_drop N2 ?mS) ⟨_, fa, _, _, _, _, rfl, rfl, ?mA, ?mM, fv, n, ?mM2, ?mP⟩
    case mS => k_extra "mine:sub"
    case mA => k_extra "mine:ab"
    case mM => k_extra "mine:mem"
    case mM2 => k_extra "mine:mem"
    case mP =>
      rw [hvl, List.take_length] at hf
      rw [← hf]; exact hfp.mono (by k_extra "mine:sub")
end
section
local macro_rules | `(tactic| walk_at "mine:dummy") => `(tactic| skip)
theorem reset_6 : True := by
  w_top off
  exact trivial
abbrev pingObj (ts : Tok) (k : Nat) : Obj := { cls := .type "tuple", data := .seq [.str (Str.ofString "ping") ts].toArray k }
theorem elic_con {w mean mg mb} {ta : Addr} {k : Nat} {ts : Tok} {I : Led} (ht : (ta, pingObj ts k) ∈ I) :
   Con w mean mg mb 29 2 40 I [.ref ta] (fun r N => r = .bool true ∧ N = I) := by
  intro dp un gd cn cs a ccd cl outer A₀ base h₀ L m sh sg sk st so Q E B F X N T hk hd hu hret
  refine wpAny_call ?_
  k_dflt (k_extra "mine:enterL")
  k_steps
  rename Fr _ _ _ _ => F1; rename News _ _ _ _ => N1
  exact hret _ _ _ _ F1 N1 ⟨rfl, rfl⟩
theorem flight_con {w mean mg mb} {ta : Addr} {k : Nat} {ts : Tok} {I : Led} (ht : (ta, pingObj ts k) ∈ I) :
   Con w mean mg mb 36 2 40 I [.ref ta] (fun r N => r = .bool true ∧ N = I) := by
  intro dp un gd cn cs a ccd cl outer A₀ base h₀ L m sh sg sk st so Q E B F X N T hk hd hu hret
  refine wpAny_call ?_
  k_dflt (k_extra "mine:enterL")
  k_steps
  rename Fr _ _ _ _ => F1; rename News _ _ _ _ => N1
  exact hret _ _ _ _ F1 (cb_drop N1 (by k_extra "mine:sub")) ⟨by rfl, rfl⟩
end
section
theorem reset_7 : True := by
  w_top off
  exact trivial
theorem space_con {w mean mg mb} {ts : Tok} {I : Led} :
   Con w mean mg mb 245 4 60 I [.str (Str.ofString "application") ts] (SpNew w I) := by
  intro dp un gd cn cs a ccd cl outer A₀ base h₀ L m sh sg sk st so Q E B F X N T hk hd hu hret
  k_steps
  rename Fr _ _ _ _ => F1; rename News _ _ _ _ => N1
  refine' hret _ _ _ _ F1 (cb_drop N1 ?mS) (SpNew.mk (T := ⟨?t0, ?t1, ?t2, ?t3, ?t4, ?t5, ?t6, ?t7, ?t8, ?t9, ?t10, ?t11, ?t12, ?t13, ?t14, ?t15, ?t16⟩) ?a ?b ?mA rfl ?l1 ?l2 ?l3 ?l4 ?l5)
  case mS => k_extra "mine:sub"
  case a => assumption
  case b => assumption
  case mA =>
    refine Ab.cons ?_ (Ab.cons ?_ (Ab.cons ?_ (Ab.cons ?_ (Ab.cons ?_ (Ab.cons ?_ Ab.nil)))))
    all_goals first | k_extra "mine:ne" | (dsimp only; exact ne_all (And.right (And.right (by assumption))) fun p h => h)
  all_goals k_extra "mine:om"
end
section
local macro_rules | `(tactic| walk_at "mine:dummy") => `(tactic| skip)
theorem reset_8 : True := by
  w_top off
  exact trivial
theorem ltake_con {w mean mg mb} {bx xs : Addr} {I : Led} {k many : Int} {kt tm : Tok} {n : Nat} {ns : List Int} (hx : IntsIn I xs ns) (hn : ns.length ≤ 63) (hb : OwnOff I [bx]) (hk0 : 0 ≤ k) (hk1 : k ≤ 1000) (hm0 : 1 ≤ many) (hm1 : many ≤ 100) :
   Con w mean mg mb 305 2 40 ((bx, listOf [.ref xs, .int k kt].toArray n) :: I) [.ref bx, .int many tm] (fun r N => ∃ v t kt' n', r = .int v t ∧ 0 ≤ v ∧ v < many ∧ N = (bx, listOf [.ref xs, .int (k + 1) kt'].toArray n') :: I) := by
  intro dp un gd cn cs ad ccd cl outer A₀ base h₀ L m sh sg sk st so Q E B F X N T hk hd hu hret
  obtain ⟨vs, nn, hl, his⟩ := id hx
  have hvl : vs.length = ns.length := his.length
  refine wpAny_call ?_
  k_dflt (k_extra "mine:enterL")
  k_steps
  all_goals
    rename Fr _ _ _ _ => F1; rename News _ _ _ _ => N1
    exact hret _ _ _ _ F1 N1 ⟨_, _, _, _, rfl, Int.fmod_nonneg_of_pos _ (by k_extra "mine:om"), Int.fmod_lt_of_pos _ (by k_extra "mine:om"), rfl⟩
end
section
theorem reset_9 : True := by
  w_top off
  exact trivial
theorem newly_con {w mean mg mb} {l l2 : Addr} {ns : List Int} {ps : List P2} {I : Led} (hr : RngIn I l ps) (hlen : ps.length ≤ 1000) (h2 : IntsIn I l2 ns) (hn : ns.length ≤ 60) :
   Con w mean mg mb 77 4 60 I [.ref l2, .ref l] (fun r N => ∃ a tl ms, r = .ref a ∧ N = I ++ tl ∧ Ab I tl ∧ IntsIn tl a ms ∧ ms.Perm (ns.filter (hasNum ps)) ∧ ms.Pairwise (· ≤ ·)) := by
  obtain ⟨ws, k, h2, hi⟩ := h2
  have hwl : ws.length = ns.length := hi.length
  intro dp un gd cn cs a ccd cl outer A₀ base h₀ L m sh sg sk st so Q E B F X N T hk hd hu hret
  refine wpAny_call ?_
  k_dflt (k_extra "mine:enterC")
  k_steps
  rename Fr _ _ _ _ => F1; rename News _ _ _ _ => N1
  refine CompSrcT.ledger (k := k) (by rfl) F1 N1 (by k_extra "mine:mem") (by k_extra "mine:size") ?_
  intro g9
  refine restT (fun i ys tl => IntsAre ys ((ns.take i).filter (hasNum ps))) (srcAt_led (n := k) (by k_extra "mine:mem")) .nil ?_ ?_
  · rintro i ys tl hi9 hab hys v it oit C oC D m₂ h9 tk9 E9 hv hoC hx1 F2 N2 off ne
    have hlt9 : i < ns.length := by rw [← hwl]; simpa using hi9
    obtain ⟨t9, hx⟩ := hi.get i ns[i] (by simp [hlt9])
    have hv' : v = .int ns[i] t9 := by
      have hP' : ws[i]? = some v := by simpa using hv
      rw [hx] at hP'; exact (Option.some.inj hP').symm
    subst hv'
    k_steps
    all_goals (rename Fr _ _ _ _ => F3; rename News _ _ _ _ => N3)
    · refine' TEnd.intro [] F3 N3 ?mS ?mA ?mR
      case mS => k_extra "mine:sub"
      case mA => exact Ab.nil
      case mR => rw [filter_yes (List.getElem?_eq_getElem hlt9) (by assumption)]; exact IntsAre.append hys (.cons _ _ .nil)
    · refine' TEnd.intro [] F3 N3 ?mS ?mA ?mR
      case mS => k_extra "mine:sub"
      case mA => exact Ab.nil
      case mR => rw [filter_no (List.getElem?_eq_getElem hlt9) (by assumption)]; exact hys
  · rintro ys tl hab hys
    k_steps
    rename Fr _ _ _ _ => F3; rename News _ _ _ _ => N3
    rw [List.size_toArray, hwl, List.take_length] at hys
    have hl9 : (ns.filter (hasNum ps)).length < 64 := Nat.lt_of_le_of_lt (List.length_filter_le _ _) (by k_extra "mine:om")
    refine kso_sorted F3 N3 (isL N3 (by k_extra "mine:mem")) hys hl9 ?_
    intro D9 vs9 ms9 c9 h9 F9 N9 lA9 hI9 hlen9 hperm9 hpw9 _
    k_steps
    rename Fr _ _ _ _ => F4; rename News _ _ _ _ => N4
    refine' hret _ (I ++ (D9, listOf vs9.toArray c9) :: tl) _ _ F4 (cb_drop N4 ?mS) ⟨_, _, ms9, rfl, rfl, ?mA, ⟨vs9, c9, ?mM, hI9⟩, hperm9, hpw9⟩
    case mS => k_extra "mine:sub"
    case mA => k_extra "mine:ab"
    case mM => k_extra "mine:mem"
end
section
local macro_rules | `(tactic| walk_at "mine:dummy") => `(tactic| skip)
theorem reset_10 : True := by
  w_top off
  exact trivial
theorem ackof_con {w mean mg mb} {l : Addr} {k : Int} {t : Tok} {ps : List P2} {M I : Led} (hr : RngIn I l ps) (hlen : ps.length ≤ 1000) (h0 : 0 ≤ k) :
   Con w mean mg mb 72 2 40 (M ++ I) [.ref l, .int k t] (fun r N => ∃ a tl, r = .ref a ∧ N = M ++ (I ++ tl) ∧ Ab (M ++ I) tl ∧ RngIn (I ++ tl) a (ps.take k.toNat)) := by
  obtain ⟨vs, n, hl, hps⟩ := hr
  have hvl : vs.length = ps.length := hps.length
  intro dp un gd cn cs a ccd cl outer A₀ base h₀ L m sh sg sk st so Q E B F X N T hk hd hu hret
  refine wpAny_call ?_
  k_dflt (k_extra "mine:enterL")
  k_steps
  rename Fr _ _ _ _ => F1; rename News _ _ _ _ => N1
  refine' hret _ (M ++ (I ++ [(?mD, listOf (vs.take k.toNat).toArray _)])) _ _ F1 (cb_drop N1 ?mS) ⟨_, _, rfl, rfl, ?mA, vs.take k.toNat, _, ?mM, ?mP⟩
  case mS => k_extra "mine:sub"
  case mA => k_extra "mine:ab"
  case mM => k_extra "mine:mem"
  case mP => exact (hps.take _).mono (by k_extra "mine:sub")
theorem kept_con {w mean mg mb} {l : Addr} {ps : List P2} {I : Led} (hr : RngIn I l ps) (hlen : ps.length ≤ 64) :
   Con w mean mg mb 256 2 40 I [.ref l] (fun r N => r = .ref l ∧ N = I) := by
  obtain ⟨vs, n, hl, hps⟩ := hr
  have hvl : vs.length = ps.length := hps.length
  intro dp un gd cn cs a ccd cl outer A₀ base h₀ L m sh sg sk st so Q E B F X N T hk hd hu hret
  refine wpAny_call ?_
  k_dflt (k_extra "mine:enterL")
  k_steps
  rename Fr _ _ _ _ => F1; rename News _ _ _ _ => N1
  exact hret _ I _ _ F1 N1 ⟨rfl, rfl⟩
theorem addn_con {w mean mg mb} {l : Addr} {x : Int} {t : Tok} {ps : List P2} {M I : Led} (hr : RngIn I l ps) (hlen : ps.length ≤ 1000) (hM : OwnOff I (M.map (·.1))) :
   Con w mean mg mb 53 4 60 (M ++ I) [.ref l, .int x t] (fun r N => ∃ a tl, r = .ref a ∧ N = M ++ (I ++ tl) ∧ Ab (M ++ I) tl ∧ RngIn (I ++ tl) a (addRange ps x x)) := by
  intro dp un gd cn cs a ccd cl outer A₀ base h₀ L m sh sg sk st so Q E B F X N T hk hd hu hret
  refine wpAny_call ?_
  k_dflt (k_extra "mine:enterL")
  k_steps
  rename Fr _ _ _ _ => F1; rename News _ _ _ _ => N1
  rename RngIn _ _ _ => rr9
  exact hret _ _ _ _ F1 N1 ⟨_, _, rfl, rfl, by k_extra "mine:ab", rr9⟩
end
section
theorem reset_11 : True := by
  w_top off
  exact trivial
set_option genSizeOf false in
set_option genInjectivity false in
structure FtC where
  mn : Int
  mt : Tok
  sz : Int
  st : Tok
theorem fit_con {w mean mg mb} {l : Addr} {lo hi room : Int} {t0 t1 : Tok} {ps : List P2} {M I : Led} (hr : RngIn I l ((lo, hi) :: ps)) (hlen : ps.length ≤ 60) (h1 : 0 ≤ hi) (h2 : hi < 64) (h3 : 0 ≤ hi - lo) (h4 : hi - lo < 64)
   (hb : ∀ q ∈ gapsOf lo ps, 0 ≤ q.1 ∧ q.1 < 64 ∧ 0 ≤ q.2 ∧ q.2 < 64) :
   Con w mean mg mb 298 4 60 (M ++ I) [.int 0 t0, .ref l, .int room t1] (fun r N => ∃ a tl, r = .ref a ∧ N = M ++ (I ++ tl) ∧ Ab (M ++ I) tl ∧ RngIn (I ++ tl) a (((lo, hi) :: ps).take ((room - 2) / 2).toNat)) := by
  obtain ⟨ws, kk, hlw, hpw⟩ := id hr
  have hwl : ws.length = ps.length + 1 := hpw.length
  intro dp un gd cn cs a ccd cl outer A₀ base h₀ L m sh sg sk st so Q E B F X N T hk hd hu hret
  refine wpAny_call ?_
  k_dflt (k_extra "mine:enterL")
  k_steps
  · rename Fr _ _ _ _ => F1; rename News _ _ _ _ => N1
    rename Ab (M ++ I) _ => ab9
    refine' hret _ (M ++ (I ++ (ab9.tl ++ [(?mD, listOf ([] : List Value).toArray 0)]))) _ _ F1 (cb_drop N1 ?mS) ⟨_, _, rfl, rfl, ?mA, [], 0, ?mM, ?mP⟩
    case mM => k_extra "mine:mem"
    case mS => k_extra "mine:sub"
    case mA => k_extra "mine:ab"
    case mP =>
      rw [show ((room - 2) / 2).toNat = 0 by k_extra "mine:om"]
      exact .nil
  · rename Fr _ _ _ _ => F1; rename News _ _ _ _ => N1
    rename RngIn _ _ (gapsOf lo ps) => rg9
    rename Ab (M ++ I) _ => ab9
    obtain ⟨vs, n, hl, hps⟩ := rg9
    have hvl : vs.length = (gapsOf lo ps).length := hps.length
    have hgl : (gapsOf lo ps).length = ps.length := gapsOf_len ps lo
    refine' floop_list (σ := FtC) (vs := vs) (nn := n) (fun c => []) (fun c => [("many", .int c.mn c.mt), ("size", .int c.sz c.st)]) ["gap", "length"] (fun i c I => c.mn = 1 + (i : Int) ∧ c.sz = 3 + 2 * (i : Int) ∧ 2 * (i : Int) + 4 ≤ room) [] ⟨1, ?ta, 3, ?tb⟩ (M ++ I ++ ab9.tl) rfl hl F1 N1 ?a1 ?a2 ?a3 ?a4 ?a5 ?a6 ?a7
    case a4 => k_extra "mine:binds"
    case a1 => k_extra "mine:sub"
    case a2 => intro c; rfl
    case a3 => k_extra "mine:off"
    case a5 => exact ⟨rfl, rfl, by k_extra "mine:om"⟩
    case a6 =>
      rintro i v c add u h' tk own Q9 hQ9 hv hab hoo hoo2 ⟨hmn, hsz, hrm⟩ F1 N1
      obtain ⟨p, hp, hpi⟩ := hps.get hv
      have hi1 : i < ps.length := by have := (List.getElem?_eq_some_iff.mp hp).1; k_extra "mine:om"
      have hpi' := hpi.mono (J := add ++ (M ++ I ++ ab9.tl)) (by k_extra "mine:sub")
      cases hpi' with | @mk a x y t u n hm =>
      have hxy := hb _ (List.mem_of_getElem? hp)
      obtain ⟨x0, x1, y0, y1⟩ := hxy
      dsimp only [List.nil_append] at N1
      obtain ⟨mn, mt, sz, st⟩ := c
      dsimp only at *
      try dsimp only
      refine letF F1 ?_
      clear F1
      intro mF7 F1
      k_steps
      all_goals (rename Fr _ _ _ _ => F2; rename News _ _ _ _ => N2)
      · refine hQ9 _ _ ?_
        unfold LPost; dsimp only
        k_steps
        rename Fr _ _ _ _ => F3; rename News _ _ _ _ => N3
        refine' hret _ (M ++ (I ++ (ab9.tl ++ ((?mD1, listOf (ws.take (Int.toNat mn)).toArray ?mk1) :: add)))) _ _ F3 (cb_drop N3 ?mS) ⟨_, _, rfl, rfl, ?mA, ws.take (Int.toNat mn), ?mk1, ?mM, ?mP⟩
        case mS => k_extra "mine:sub"
        case mA => k_extra "mine:ab"
        case mM => k_extra "mine:mem"
        case mP =>
          rw [show ((room - 2) / 2).toNat = mn.toNat by k_extra "mine:om"]
          exact (hpw.mono (by k_extra "mine:sub")).take _
      · refine' hQ9 _ _ (LEnd.intro ⟨mn + 1, _, sz + (1 + 1), _⟩ [] F2 N2 ?mK ?mN ?mA ?mS8 ?mP8)
        case mK => k_extra "mine:binds"
        case mN => k_extra "mine:sub"
        case mA => k_extra "mine:ab"
        case mS8 => k_extra "mine:same"
        case mP8 =>
          refine ⟨?_, ?_, ?_⟩ <;> (try dsimp only) <;> k_extra "mine:om"
    case a7 => 
      rintro c add u h' tk hab hoo ⟨hmn, hsz, hrm⟩ F1 N1
      obtain ⟨mn, mt, sz, st⟩ := c
      dsimp only [List.nil_append] at N1
      dsimp only at *
      try dsimp only
      refine letF F1 ?_
      clear F1
      intro mF8 F1
      k_steps
      rename Fr _ _ _ _ => F3; rename News _ _ _ _ => N3
      refine' hret _ (M ++ (I ++ (ab9.tl ++ ((?mD2, listOf (ws.take (Int.toNat mn)).toArray ?mk2) :: add)))) _ _ F3 (cb_drop N3 ?mS) ⟨_, _, rfl, rfl, ?mA, ws.take (Int.toNat mn), ?mk2, ?mM, ?mP⟩
      case mS => k_extra "mine:sub"
      case mA => k_extra "mine:ab"
      case mM => k_extra "mine:mem"
      case mP =>
        rw [List.take_of_length_le (by rw [hwl]; k_extra "mine:om"), List.take_of_length_le (by simp; k_extra "mine:om")]
        exact (hpw.mono (by k_extra "mine:sub"))
end
section
local macro_rules | `(tactic| walk_at "mine:dummy") => `(tactic| skip)
theorem reset_12 : True := by
  w_top off
  exact trivial
theorem taken_con {w mean mg mb} {x d sd : Addr} {c : SndC} {a : SndA} {I : Led} (hc : SndOK w I sd c a) (hx : (x, instObj 245 d) ∈ I) (ho : OwnOff I [d, sd]) (hds : @Ne Nat d sd) :
   Con w mean mg mb 160 2 40 (sndL w d sd c ++ I) [.ref x] (fun r N => ∃ t c', r = .int a.n t ∧ N = sndL w d sd c' ++ I ∧ c'.ac = c.ac ∧ SndOK w I sd c' { a with n := a.n + 1 }) := by
  intro dp un gd cn cs ad ccd cl outer A₀ base h₀ L m sh sg sk st so Q E B F X N T hk hd hu hret
  obtain ⟨T9, v0, v5, v6, v7, v8, v9, v10, v11, v12, v13, v14, v15, v16, la, n, nt, ac, o⟩ := c
  obtain ⟨h1, h2, h3, h4, h5⟩ := hc
  dsimp only at *
  dsimp only [List.cons_append, List.nil_append] at N
  refine wpAny_call ?_
  k_dflt (k_extra "mine:enterL")
  k_steps
  subst h1
  rename Fr _ _ _ _ => F1; rename News _ _ _ _ => N1
  rw [show a.n + 1 - 1 = a.n by k_extra "mine:om"]
  exact hret _ _ _ _ F1 N1 ⟨_, ⟨T9, v0, v5, v6, v7, v8, v9, v10, v11, v12, v13, v14, v15, v16, la, a.n + 1, _, ac, o⟩, rfl, rfl, rfl, ⟨rfl, h2, h3, h4, h5⟩⟩
theorem notel_con {w mean mg mb} {x d sd : Addr} {c : SndC} {a : SndA} {I : Led} {k9 : Int} {t9 : Tok} (hc : SndOK w I sd c a) (hx : (x, instObj 245 d) ∈ I) (ho : OwnOff I [d, sd]) (hds : @Ne Nat d sd) :
   Con w mean mg mb 207 2 40 (sndL w d sd c ++ I) [.ref x, .int k9 t9] (fun r N => ∃ c', r = .none ∧ N = sndL w d sd c' ++ I ∧ SndOK w I sd c' { a with la := some (omax a.la k9) }) := by
  intro dp un gd cn cs ad ccd cl outer A₀ base h₀ L m sh sg sk st so Q E B F X N T hk hd hu hret
  obtain ⟨T9, v0, v5, v6, v7, v8, v9, v10, v11, v12, v13, v14, v15, v16, la, n, nt, ac, o⟩ := c
  obtain ⟨h1, h2, h3, h4, h5⟩ := hc
  dsimp only at *
  dsimp only [List.cons_append, List.nil_append] at N
  generalize hla : a.la = ala at *
  cases h2 with
  | none =>
    refine wpAny_call ?_
    k_dflt (k_extra "mine:enterL")
    k_steps
    rename Fr _ _ _ _ => F1; rename News _ _ _ _ => N1
    exact hret _ _ _ _ F1 N1 ⟨⟨T9, v0, v5, v6, v7, v8, v9, v10, v11, v12, v13, v14, v15, v16, _, n, nt, ac, o⟩, rfl, rfl, ⟨h1, .int, h3, h4, h5⟩⟩
  | int =>
    refine wpAny_call ?_
    k_dflt (k_extra "mine:enterL")
    k_steps
    all_goals (rename Fr _ _ _ _ => F1; rename News _ _ _ _ => N1)
    · exact hret _ _ _ _ F1 N1 ⟨⟨T9, v0, v5, v6, v7, v8, v9, v10, v11, v12, v13, v14, v15, v16, (.int k9 t9), n, nt, ac, o⟩, rfl, rfl, ⟨h1, omax_yes (by assumption) ▸ OptI.int, h3, h4, h5⟩⟩
    · exact hret _ _ _ _ F1 N1 ⟨⟨T9, v0, v5, v6, v7, v8, v9, v10, v11, v12, v13, v14, v15, v16, _, n, nt, ac, o⟩, rfl, rfl, ⟨h1, omax_no (by assumption) ▸ OptI.int, h3, h4, h5⟩⟩
theorem beyond_con {w mean mg mb} {x d sd : Addr} {c : SndC} {a : SndA} {I : Led} {l : Addr} {p : P2} {ps : List P2} (hc : SndOK w I sd c a) (hx : (x, instObj 245 d) ∈ I) (ho : OwnOff I [d, sd]) (hds : @Ne Nat d sd)
   (hr : RngIn I l (p :: ps)) (hlen : ps.length ≤ 1000) (hp : p.2 < a.n) :
   Con w mean mg mb 200 2 40 (sndL w d sd c ++ I) [.ref x, .ref l] (fun r N => r = .bool false ∧ N = sndL w d sd c ++ I) := by
  obtain ⟨vs, n9, hl, hps⟩ := hr
  cases hps with | @cons v0 vs _ _ h0 hps =>
  cases h0 with | @mk a0 px py t0 u0 n0 hm0 =>
  have hvl : vs.length = ps.length := hps.length
  intro dp un gd cn cs ad ccd cl outer A₀ base h₀ L m sh sg sk st so Q E B F X N T hk hd hu hret
  obtain ⟨T9, v0, v5, v6, v7, v8, v9, v10, v11, v12, v13, v14, v15, v16, la, n, nt, ac, o⟩ := c
  obtain ⟨h1, h2, h3, h4, h5⟩ := hc
  dsimp only at *
  dsimp only [List.cons_append, List.nil_append] at N
  subst h1
  refine wpAny_call ?_
  k_dflt (k_extra "mine:enterL")
  k_steps
  all_goals (rename Fr _ _ _ _ => F1; rename News _ _ _ _ => N1)
  · exact hret _ _ _ _ F1 N1 ⟨by rw [decide_eq_false (by k_extra "mine:om")], rfl⟩
  · rename ¬ _ => hz; exact absurd (by simp) hz
end
section
theorem reset_13 : True := by
  w_top off
  exact trivial
theorem acked_con {w mean mg mb} {x d sd : Addr} {c : SndC} {a : SndA} {I : Led} {l : Addr} {ps : List P2} (hc : SndOK w I sd c a) (hx : (x, instObj 245 d) ∈ I) (ho : OwnOff I [d, sd]) (hds : @Ne Nat d sd)
   (hr : RngIn I l ps) (hlen : ps.length ≤ 1000) (hn : a.sent.length ≤ 60) :
   Con w mean mg mb 179 6 80 (sndL w d sd c ++ I) [.ref x, .ref l] (fun r N => ∃ b tl ms, r = .ref b ∧ N = sndL w d sd c ++ (I ++ tl) ∧ Ab (sndL w d sd c ++ I) tl ∧ IntsIn tl b ms ∧ ms.Perm (a.sent.filter (hasNum ps)) ∧ ms.Pairwise (· ≤ ·)) := by
  intro dp un gd cn cs ad ccd cl outer A₀ base h₀ L m sh sg sk st so Q E B F X N T hk hd hu hret
  obtain ⟨T9, v0, v5, v6, v7, v8, v9, v10, v11, v12, v13, v14, v15, v16, la, n, nt, ac, o⟩ := c
  obtain ⟨h1, h2, h3, ⟨kvs, hd9, hk9⟩, h5⟩ := hc
  have hkl : kvs.length = a.sent.length := by rw [← hk9, List.length_map]
  dsimp only at *
  dsimp only [List.cons_append, List.nil_append] at N
  refine wpAny_call ?_
  k_dflt (k_extra "mine:enterL")
  k_steps
  rename Fr _ _ _ _ => F1; rename News _ _ _ _ => N1
  rename IntsIn _ _ _ => ii9
  rename Ab _ _ => ab9
  rename List.Perm _ _ => pm9
  refine' hret _ (sndL w d sd _ ++ (I ++ ((?mD, ?mo) :: ab9.tl))) _ _ F1 (cb_drop N1 ?mS) ⟨_, _, _, rfl, rfl, ?mA, ii9.mono ?mi, by rw [← hk9]; exact pm9, by assumption⟩
  case mS => simp only [List.cons_append, List.nil_append]; k_extra "mine:sub"
  case mi => k_extra "mine:sub"
  case mA => simp only [List.cons_append, List.nil_append]; k_extra "mine:ab"
end
section
local macro_rules | `(tactic| walk_at "mine:dummy") => `(tactic| skip)
theorem reset_14 : True := by
  w_top off
  exact trivial
theorem takes_con {w mean mg mb} {x d sd : Addr} {c : SndC} {a : SndA} {I : Led} {l : Addr} {ns : List Int} (hc : SndOK w I sd c a) (hx : (x, instObj 245 d) ∈ I) (ho : OwnOff I [d, sd]) (hds : @Ne Nat d sd)
   (hr : IntsIn I l ns) (hlen : ns.length ≤ 60) (hn : a.sent.length ≤ 60) :
   Con w mean mg mb 172 6 80 (sndL w d sd c ++ I) [.ref x, .ref l] (fun r N => ∃ c' tl, N = sndL w d sd c' ++ (I ++ tl) ∧ Ab (sndL w d sd c ++ I) tl ∧ SndOK w I sd c' { a with sent := a.sent.filter fun x => decide (x ∉ ns) }) := by
  intro dp un gd cn cs ad ccd cl outer A₀ base h₀ L m sh sg sk st so Q E B F X N T hk hd hu hret
  obtain ⟨vs, nn, hl, hi⟩ := hr
  obtain ⟨T9, v0, v5, v6, v7, v8, v9, v10, v11, v12, v13, v14, v15, v16, la, n, nt, ac, o⟩ := c
  obtain ⟨h1, h2, h3, ⟨kvs, hd9, hk9⟩, h5⟩ := hc
  have hkl : kvs.length = a.sent.length := by rw [← hk9, List.length_map]
  dsimp only at *
  dsimp only [List.cons_append, List.nil_append] at N
  refine wpAny_call ?_
  k_dflt (k_extra "mine:enterC")
  k_steps
  rename Fr _ _ _ _ => F1; rename News _ _ _ _ => N1
  rename_i oc9 _ _ DS cS _ vsS nsS hIS hpS _
  have hlS : nsS.length = ns.length := hpS.length_eq
  have hlV : vsS.length = nsS.length := hIS.length
  refine CompSrcT.ledger (k := cS) (by rfl) F1 N1 (by k_extra "mine:mem") (by k_extra "mine:size") ?_
  intro g9
  refine restT_ind (fun i ys nw => ∃ o2 kvs2, nw = ((DS, listOf vsS.toArray cS) :: (_, oc9) :: (d, dictOf (spE w T9 v0 (Value.int n nt) (Value.ref sd) la (Value.ref ac) v5 v6 v7 v8 v9 v10 v11 v12 v13 v14 v15 v16) 17) :: (sd, o2) :: I) ∧ o2.IsDictOf (intKind PR w) kvs2 ∧ keysOf kvs2 = (keysOf kvs).filter fun x => decide (x ∉ nsS.take i)) ⟨o, kvs, rfl, hd9, ?z0⟩ ?z1 ?z2
  case z0 => rw [List.take_zero]; exact (List.filter_eq_self.mpr (by simp)).symm
  case z1 =>
    rintro i ys nw hi9 ⟨o2, kvs2, rfl, hd2, hk2⟩ v it oit C oC D9 m₂ h9 tk9 E9 hv hoC hx1 F2 N2 off ne
    have hlt9 : i < nsS.length := by rw [← hlV]; simpa using hi9
    obtain ⟨t9, hx9⟩ := hIS.get i nsS[i] (by simp [hlt9])
    have hv' : v = .int nsS[i] t9 := by
      have hP' : vsS[i]? = some v := by simpa using hv
      rw [hx9] at hP'; exact (Option.some.inj hP').symm
    subst hv'
    have of9 := off.mem (sd, o2) (by k_extra "mine:mem")
    have of1 : @Ne Nat sd it := of9.1
    have of2 : @Ne Nat sd C := of9.2.1
    have of3 : @Ne Nat sd D9 := of9.2.2
    have hkl2 : kvs2.length ≤ 60 := by have := congrArg List.length hk2; rw [keysOf, List.length_map] at this; rw [this]; exact Nat.le_trans (List.length_filter_le _ _) (by rw [keysOf, List.length_map]; k_extra "mine:om")
    k_steps
    all_goals (rename Fr _ _ _ _ => F3; rename News _ _ _ _ => N3)
    · rename Obj.IsDictOf _ _ (without _ _) => hd3
      refine CompEnd.intro F3 N3 _ (fun p hp => hp) off (.inr ⟨_, List.mem_cons_self, rfl, _, rfl⟩) ⟨_, _, rfl, hd3, ?_⟩
      rw [keysOf_without, hk2]; exact notin_succ (List.getElem?_eq_getElem hlt9)
    · rename nsS[i] ∉ _ => hno
      refine CompEnd.intro F3 N3 _ (fun p hp => hp) off (.inr ⟨_, List.mem_cons_self, rfl, _, rfl⟩) ⟨o2, _, rfl, hd2, ?_⟩
      rw [hk2] at hno ⊢; exact notin_succ_no (List.getElem?_eq_getElem hlt9) hno
  case z2 =>
    rintro ys nw ⟨o2, kvs2, rfl, hd2, hk2⟩
    k_steps
    rename Fr _ _ _ _ => F3; rename News _ _ _ _ => N3
    refine hret _ (sndL w d sd ⟨T9, v0, v5, v6, v7, v8, v9, v10, v11, v12, v13, v14, v15, v16, la, n, nt, ac, o2⟩ ++ (I ++ [])) _ _ F3 (cb_drop N3 ?_) ⟨_, _, rfl, Ab.nil, ⟨h1, h2, h3, ⟨kvs2, hd2, ?_⟩, h5⟩⟩
    · simp only [List.cons_append, List.nil_append, List.append_nil]; k_extra "mine:sub"
    · show keysOf kvs2 = _
      rw [hk2, List.take_of_length_le (by simp; k_extra "mine:om"), notin_perm hpS]
      exact congrArg _ hk9
end
section
theorem reset_15 : True := by
  w_top off
  exact trivial
theorem noter_con {w mean mg mb} {x d sd : Addr} {c : SndC} {a : SndA} {I : Led} {l : Addr} {ps : List P2} (hc : SndOK w I sd c a) (hx : (x, instObj 245 d) ∈ I) (ho : OwnOff I [d, sd]) (hds : @Ne Nat d sd)
   (hr : RngIn I l ps) (hlen : ps.length ≤ 60) (hn : a.sent.length ≤ 60) (hal : a.ack.length ≤ 200) :
   Con w mean mg mb 193 6 80 (sndL w d sd c ++ I) [.ref x, .ref l] (fun r N => ∃ c' tl least, r = .none ∧ N = sndL w d sd c' ++ (I ++ tl) ∧ Ab (sndL w d sd c ++ I) tl ∧ IsLeast a.n a.sent least ∧ SndOK w tl sd c' { a with ack := pruneR (ps.foldl (noteF least) a.ack) least }) := by
  intro dp un gd cn cs ad ccd cl outer A₀ base h₀ L m sh sg sk st so Q E B F X N T hk hd hu hret
  refine md 60 ?_
  intro md60
  obtain ⟨vs, nn, hl, hps⟩ := id hr
  have hvl : vs.length = ps.length := hps.length
  obtain ⟨T9, v0, v5, v6, v7, v8, v9, v10, v11, v12, v13, v14, v15, v16, la, n, nt, ac, o⟩ := c
  obtain ⟨h1, h2, h3, ⟨kvs, hd9, hk9⟩, h5⟩ := hc
  have hkq : (keysOf kvs).length = kvs.length := List.length_map _
  have hkl : kvs.length = a.sent.length := by rw [← hk9, List.length_map]
  dsimp only at *
  subst h1
  dsimp only [List.cons_append, List.nil_append] at N
  refine wpAny_call ?_
  k_dflt (k_extra "mine:enterL")
  k_steps
  rotate_left
  have hL : IsLeast a.n a.sent a.n := .inl ⟨List.eq_nil_of_length_eq_zero (by k_extra "mine:om"), rfl⟩
  rotate_right
  rename _ ∈ keysOf _ => hm9
  rename ∀ a ∈ keysOf _, _ ≤ a => ha9
  have hL : IsLeast a.n a.sent _ := .inr (by rw [← hk9]; exact ⟨hm9, ha9⟩)
  all_goals (rename Fr _ _ _ _ => F1; rename News _ _ _ _ => N1)
  all_goals
    refine' floop_list (σ := Addr × List P2) (vs := vs) (nn := nn) (fun c => sndL w d sd ⟨T9, v0, v5, v6, v7, v8, v9, v10, v11, v12, v13, v14, v15, v16, la, a.n, nt, c.1, o⟩) (fun c => []) ["low", "high"] (fun i c I => RngIn I c.1 c.2 ∧ c.2 = (ps.take i).foldl (noteF hL.val) a.ack ∧ c.2.length ≤ a.ack.length + i) [d, sd] (ac, a.ack) I rfl hl F1 N1 ?p1 ?p2 ?p3 ?p4 ?p5 ?p6 ?p7
    case p1 => k_extra "mine:sub"
    case p2 => intro c; rfl
    case p3 => k_extra "mine:off"
    case p4 => k_extra "mine:binds"
    case p5 => exact ⟨h3, rfl, Nat.le_refl _⟩
    case p6 =>
      rintro i v c add u h' tk own Q9 hQ9 hv hab hoo hoo2 ⟨hrc, hc2, hcl⟩ F1 N1
      obtain ⟨p, hp, hpi⟩ := hps.get hv
      have hi1 : i < ps.length := (List.getElem?_eq_some_iff.mp hp).1
      have hpi' := hpi.mono (J := add ++ I) (by k_extra "mine:sub")
      cases hpi' with | @mk pa px py pt pu pn hm =>
      dsimp only [List.cons_append, List.nil_append] at N1
      obtain ⟨ac9, ak9⟩ := c
      dsimp only at hrc hc2 hcl
      try dsimp only
      refine letF F1 ?_
      clear F1
      intro mF11 F1
      k_steps
      all_goals (rename Fr _ _ _ _ => F2; rename News _ _ _ _ => N2)
      · apply Stop.go
        (try k_fold)
        refine' Con.use (add_range_con (M := (d, dictOf (spE w T9 v0 (Value.int a.n nt) (Value.ref sd) la (Value.ref ac9) v5 v6 v7 v8 v9 v10 v11 v12 v13 v14 v15 v16) 17) :: (sd, o) :: own) (I := add ++ I) hrc ?mhl7 ?mhM7) ?mB7 F2 ?mX7 (cb_drop N2 ?mN7) ?mT7 ?mk7 ?md7 ?mu7 ?_
        case mN7 => simp only [List.cons_append]; k_extra "mine:sub"
        case mhl7 => k_extra "mine:om"
        case mhM7 => exact OwnOff.add (OwnOff.add (OwnOff.symm hoo2) (by k_extra "mine:ne")) (by k_extra "mine:ne")
        case mB7 => k_asm
        case mX7 => k_asm
        case mT7 => k_asm
        case mk7 => first | exact rfl | assumption
        case md7 => k_extra "mine:room"
        case mu7 => k_extra "mine:units"
        intro r' n' h' tk' F' N' P'
        obtain ⟨a', tl', e1', e2', ab', rr'⟩ := P'
        subst e1' e2'
        simp only [List.cons_append] at N' ab'
        k_steps
        rename Fr _ _ _ _ => F3; rename News _ _ _ _ => N3
        refine' hQ9 _ _ (LEnd.intro (a', noteF hL.val ak9 (px, py)) tl' F3 N3 ?mK ?mN ?mA ?mS ?mP)
        case mK => k_extra "mine:binds"
        case mN => simp only [List.cons_append, List.nil_append]; k_extra "mine:sub"
        case mA =>
          simp only [List.cons_append, List.nil_append]
          refine Ab.sub (Ab.re (o2 := ?_) ab') ?_
          rotate_left
          k_extra "mine:sub"
        case mS => k_extra "mine:same"
        case mP =>
          refine ⟨?_, ?_, Nat.le_trans (noteF_len _ _ _) (by k_extra "mine:om")⟩
          · dsimp only; rw [noteF_yes (by assumption)]; exact rr'.mono (by k_extra "mine:sub")
          · dsimp only; rw [foldl_take_succ _ _ hp, hc2]
      · refine' hQ9 _ _ (LEnd.intro (ac9, noteF hL.val ak9 (px, py)) [] F2 N2 ?mK ?mN ?mA ?mS ?mP)
        case mK => k_extra "mine:binds"
        case mN => simp only [List.cons_append, List.nil_append]; k_extra "mine:sub"
        case mA => k_extra "mine:ab"
        case mS => k_extra "mine:same"
        case mP =>
          refine ⟨?_, ?_, Nat.le_trans (noteF_len _ _ _) (by k_extra "mine:om")⟩
          · dsimp only; rw [noteF_no (by assumption)]; exact hrc
          · dsimp only; rw [foldl_take_succ _ _ hp, hc2]
    case p7 =>
      rintro c add u h' tk hab hoo ⟨hrc, hc2, hcl⟩ F1 N1
      dsimp only [List.cons_append, List.nil_append] at N1
      obtain ⟨ac9, ak9⟩ := c
      dsimp only at hrc hc2 hcl
      try dsimp only
      refine letF F1 ?_
      clear F1
      intro mF12 F1
      k_steps
      rename Fr _ _ _ _ => F2; rename News _ _ _ _ => N2
      rename RngIn _ _ (pruneR _ _) => rr9
      rename Ab (_ :: _ :: (add ++ I)) _ => ab9
      have e9 : ak9 = ps.foldl (noteF hL.val) a.ack := by rw [hc2, List.take_of_length_le (by k_extra "mine:om")]
      rw [e9] at rr9
      refine hret _ (sndL w d sd ⟨T9, v0, v5, v6, v7, v8, v9, v10, v11, v12, v13, v14, v15, v16, la, a.n, nt, _, o⟩ ++ (I ++ (add ++ ab9.tl))) _ _ F2 (cb_drop N2 ?_) ⟨_, _, _, rfl, rfl, ?_, hL, ⟨rfl, h2, rr9.mono ?_, ⟨kvs, hd9, hk9⟩, h5⟩⟩
      · simp only [List.cons_append, List.nil_append]; k_extra "mine:sub"
      · simp only [List.cons_append, List.nil_append]
        refine Ab.app ?_ ?_
        · refine Ab.sub (Ab.re (d := d) (r := (sd, o) :: I) (o2 := ?_) hab) ?_
          rotate_left
          k_extra "mine:sub"
        · refine Ab.sub (Ab.re (o2 := ?_) ab9) ?_
          rotate_left
          k_extra "mine:sub"
      · k_extra "mine:sub"
end
section
local macro_rules | `(tactic| walk_at "mine:dummy") => `(tactic| skip)
theorem reset_16 : True := by
  w_top off
  exact trivial
theorem anyel_con {w mean mg mb} {fa ta : Addr} {n k : Nat} {ts : Tok} {I : Led} (hf : (fa, listOf [Value.ref ta].toArray n) ∈ I) (ht : (ta, pingObj ts k) ∈ I) :
   Con w mean mg mb 41 4 120 I [.ref fa] (fun r N => r = .bool true ∧ N = I) := by
  intro dp un gd cn cs a ccd cl outer A₀ base h₀ L m sh sg sk st so Q E B F X N T hk hd hu hret
  refine wpAny_call ?_
  k_dflt (k_extra "mine:enterL"); (try subst ev'); (try subst ak')
  k_steps
  rename Fr _ _ _ _ => F1; rename News _ _ _ _ => N1; rename Off3 _ _ _ _ => of1
  refine CompEnd.intro F1 N1 I (by k_extra "mine:sub") of1 (.inr ⟨_, hf, rfl, _, rfl⟩) ?_
  k_steps
  k_steps
  rename Fr _ _ _ _ => F2; rename News _ _ _ _ => N2
  exact hret _ I _ _ F2 (cb_drop N2 (by k_extra "mine:sub")) ⟨rfl, rfl⟩

theorem anyfl_con {w mean mg mb} {fa ta : Addr} {n k : Nat} {ts : Tok} {I : Led} (hf : (fa, listOf [Value.ref ta].toArray n) ∈ I) (ht : (ta, pingObj ts k) ∈ I) :
   Con w mean mg mb 46 4 120 I [.ref fa] (fun r N => r = .bool true ∧ N = I) := by
  intro dp un gd cn cs a ccd cl outer A₀ base h₀ L m sh sg sk st so Q E B F X N T hk hd hu hret
  refine wpAny_call ?_
  k_dflt (k_extra "mine:enterL"); (try subst ev'); (try subst ak')
  k_steps
  rename Fr _ _ _ _ => F1; rename News _ _ _ _ => N1; rename Off3 _ _ _ _ => of1
  refine CompEnd.intro F1 N1 I (by k_extra "mine:sub") of1 (.inr ⟨_, hf, rfl, _, rfl⟩) ?_
  k_steps
  k_steps
  rename Fr _ _ _ _ => F2; rename News _ _ _ _ => N2
  exact hret _ I _ _ F2 (cb_drop N2 (by k_extra "mine:sub")) ⟨rfl, rfl⟩
end
section
theorem reset_17 : True := by
  w_top off
  exact trivial
theorem sentp_con {w mean mg mb} {x y z : Int} {t0 t1 t2 : Tok} {fa ta : Addr} {n k : Nat} {ts : Tok} {I : Led} (hf : (fa, listOf [Value.ref ta].toArray n) ∈ I) (ht : (ta, pingObj ts k) ∈ I) :
   Con w mean mg mb 100 10 240 I [.int x t0, .int y t1, .int z t2, .ref fa] (fun r N => ∃ p tl, r = .ref p ∧ N = I ++ tl ∧ Ab I tl ∧ PkAt w p tl) := by
  intro dp un gd cn cs a ccd cl outer A₀ base h₀ L m sh sg sk st so Q E B F X N T hk hd hu hret
  k_steps
  rename Fr _ _ _ _ => F2; rename News _ _ _ _ => N2
  refine' hret _ (I ++ [(_, instObj 100 ?pd), (?pd, ?po)]) _ _ F2 (cb_drop N2 ?mS) ⟨_, _, rfl, rfl, ?mA, ?mZ⟩
  case mS => k_extra "mine:sub"
  case mA => k_extra "mine:ab"
  case mZ => exact PkAt.mk
end
section
local macro_rules | `(tactic| walk_at "mine:dummy") => `(tactic| skip)
theorem reset_18 : True := by
  w_top off
  exact trivial
theorem onsent_con {w mean mg mb} {x d sd : Addr} {c : SndC} {a : SndA} {I : Led} {y z : Int} {t0 t1 t2 ts : Tok} {fa ta : Addr} {n9 k9 : Nat} (hc : SndOK w I sd c a) (hx : (x, instObj 245 d) ∈ I) (ho : OwnOff I [d, sd]) (hds : @Ne Nat d sd)
   (hf : (fa, listOf [Value.ref ta].toArray n9) ∈ I) (ht : (ta, pingObj ts k9) ∈ I) (hn : a.sent.length ≤ 60) (hz : y ∉ a.sent) :
   Con w mean mg mb 167 12 280 (sndL w d sd c ++ I) [.ref x, .int y t0, .int z t1, .int 50 t2, .ref fa] (fun r N => ∃ c' tl, N = sndL w d sd c' ++ (I ++ tl) ∧ Ab (sndL w d sd c ++ I) tl ∧ c'.ac = c.ac ∧ SndOK w I sd c' { a with sent := a.sent ++ [y] }) := by
  intro dp un gd cn cs ad ccd cl outer A₀ base h₀ L m sh sg sk st so Q E B F X N T hk hd hu hret
  refine md 100 ?_
  intro md100
  obtain ⟨T9, v0, v5, v6, v7, v8, v9, v10, v11, v12, v13, v14, v15, v16, la, n, nt, ac, o⟩ := c
  obtain ⟨h1, h2, h3, ⟨kvs, hd9, hk9⟩, h5⟩ := hc
  have hkl : kvs.length = a.sent.length := by rw [← hk9, List.length_map]
  dsimp only at *
  dsimp only [List.cons_append, List.nil_append] at N
  refine wpAny_call ?_
  k_dflt (k_extra "mine:enterL")
  k_steps
  rename Fr _ _ _ _ => F1; rename News _ _ _ _ => N1
  rename Obj.IsDictOf _ _ (stored _ _ _) => hd8
  refine' hret _ (sndL w d sd ⟨T9, v0, .int z t1, v6, v7, v8, v9, v10, v11, v12, v13, v14, v15, v16, la, n, nt, ac, ?mo⟩ ++ (I ++ [])) _ _ F1 (cb_drop N1 ?mS) ⟨_, _, rfl, Ab.nil, rfl, ⟨h1, h2, h3, ⟨_, hd8, ?mk⟩, h5⟩⟩
  case mS => simp only [List.cons_append, List.nil_append, List.append_nil]; k_extra "mine:sub"
  case mk =>
    show keysOf (stored kvs y _) = _
    rw [keysOf_stored_new (by rw [show keysOf kvs = a.sent from hk9]; exact hz), show keysOf kvs = a.sent from hk9]
end
section
theorem reset_19 : True := by
  w_top off
  exact trivial
theorem known_con {w mean mg mb} {x d ec : Addr} {c : RcvC} {a : RcvA} {I : Led} {k9 : Int} {t9 : Tok} (hc : RcvOK w I c a) (hx : (x, instObj 245 d) ∈ I) (ho : OwnOff I [d, ec]) (hde : @Ne Nat d ec) (hk0 : 0 ≤ k9) (hlen : a.rcv.length ≤ 60) :
   Con w mean mg mb 125 4 60 (rcvL w d ec c ++ I) [.ref x, .int k9 t9] (fun r N => ∃ tl, r = .bool (hasNum a.rcv k9) ∧ N = rcvL w d ec c ++ (I ++ tl) ∧ Ab (rcvL w d ec c ++ I) tl) := by
  intro dp un gd cn cs ad ccd cl outer A₀ base h₀ L m sh sg sk st so Q E B F X N T hk hd hu hret
  obtain ⟨T9, v1, v2, v3, v4, v5, v6, v13, v14, v16, ts, rl, ls, lt, fu, fl, k, kt, e1, e2, e3, t1, t2, t3, en⟩ := c
  obtain ⟨hr, h2, h3, h4, h5⟩ := hc
  dsimp only at *
  obtain ⟨vs, nn, hl, hps⟩ := id hr
  have hvl : vs.length = a.rcv.length := hps.length
  dsimp only [List.cons_append, List.nil_append] at N
  refine wpAny_call ?_
  k_dflt (k_extra "mine:enterL")
  k_steps
  rename Fr _ _ _ _ => F1; rename News _ _ _ _ => N1
  refine hret _ _ _ _ F1 N1 ⟨_, rfl, rfl, by assumption⟩
end
section
local macro_rules | `(tactic| walk_at "mine:dummy") => `(tactic| skip)
theorem reset_20 : True := by
  w_top off
  exact trivial
theorem recv_con {w mean mg mb} {x d ec : Addr} {c : RcvC} {a : RcvA} {Y9 I : Led} {n9 now mk9 : Int} {tn t0 tm : Tok} (hc : RcvOK w I c a) (hx : (x, instObj 245 d) ∈ I) (ho : OwnOff (Y9 ++ I) [d, ec]) (hX : OwnOff I (Y9.map (·.1))) (hde : @Ne Nat d ec) (hlen : a.rcv.length ≤ 60) (h9 : n9 % 4 = mk9) :
   Con w mean mg mb 132 6 80 (rcvL w d ec c ++ (Y9 ++ I)) [.ref x, .int n9 tn, .int now t0, .bool true, .int mk9 tm] (fun r N => ∃ c' tl, N = rcvL w d ec c' ++ (Y9 ++ (I ++ tl)) ∧ Ab (rcvL w d ec c ++ (Y9 ++ I)) tl ∧ RcvOK w (I ++ tl) c' (rcvStep a n9)) := by
  intro dp un gd cn cs ad ccd cl outer A₀ base h₀ L m sh sg sk st so Q E B F X N T hk hd hu hret
  refine md 3 ?_
  intro md3
  obtain ⟨T9, v1, v2, v3, v4, v5, v6, v13, v14, v16, ts, rl, ls, lt, fu, fl, k, kt, e1, e2, e3, t1, t2, t3, en⟩ := c
  obtain ⟨hr, h2, h3, h4, h5⟩ := hc
  dsimp only at *
  dsimp only [List.cons_append, List.nil_append] at N
  generalize hla : a.ls = als at h2
  cases h2 with
  | fresh =>
    refine wpAny_call ?_
    k_dflt (k_extra "mine:enterL")
    k_steps
    rename Fr _ _ _ _ => F2; rename News _ _ _ _ => N2
    apply Stop.go
    (try k_fold)
    refine' Con.use (addn_con (M := (d, _) :: (ec, _) :: Y9) (I := I) (ps := a.rcv) ?mr7 ?ml7 ?mo7) ?mB7 F2 ?mX7 (cb_drop N2 ?mS7) ?mT7 ?mk7 ?md7 ?mu7 ?_
    case mr7 => k_extra "mine:rng"
    case ml7 => k_extra "mine:om"
    case mo7 =>
      intro p hp b hb
      rcases List.mem_cons.mp hb with rfl | hb
      · exact ho p (List.mem_append_right _ hp) _ (.head _)
      · rcases List.mem_cons.mp hb with rfl | hb
        · exact ho p (List.mem_append_right _ hp) _ (.tail _ (.head _))
        · exact hX p hp b hb
    case mS7 => k_extra "mine:sub"
    k_extra "mine:use7"
    rintro r8 n8 h8 tk8 F8 N8 ⟨b8, tl8, rfl, rfl, ab8, rr8⟩
    have hl8 := addRange_len a.rcv n9 n9
    (try dsimp only)
    dsimp only [List.nil_append, List.cons_append] at N8 ab8 rr8
    k_steps
    rename Fr _ _ _ _ => F3; rename News _ _ _ _ => N3
    apply Stop.go
    (try k_fold)
    refine' Con.use (kept_con (ps := addRange a.rcv n9 n9) ?mr7 ?ml7) ?mB7 F3 ?mX7 N3 ?mT7 ?mk7 ?md7 ?mu7 ?_
    case mr7 => k_extra "mine:rng"
    case ml7 => k_extra "mine:om"
    k_extra "mine:use7"
    rintro r7 n7 h7 tk7 F7 N7 ⟨rfl, rfl⟩
    obtain ⟨vs9, nn9, hl9, hps9⟩ := id rr8
    have hvl9 : vs9.length = (addRange a.rcv n9 n9).length := hps9.length
    (try dsimp only)
    k_steps
    have hst : (rcvStep a n9).ls = some n9 := by show some (omax a.ls n9) = _; rw [hla]; rfl
    have hm4 : mk9 = 0 ∨ mk9 = 1 ∨ mk9 = 2 ∨ mk9 = 3 := by k_extra "mine:om"
    rename Fr _ _ _ _ => F5; rename News _ _ _ _ => N5
    apply Stop.go
    refine ec_join (rcvStep a n9).e1 (rcvStep a n9).e2 (rcvStep a n9).e3 F5 N5 ?_ ?_
    · refine wpAny_If ?_
      rcases hm4 with rfl | rfl | rfl | rfl
      all_goals k_steps
      all_goals
        rename Fr _ _ _ _ => F4; rename News _ _ _ _ => N4
        exact EcEnd.intro F4 N4 (by simp [rcvStep, h9, h3]) (by simp [rcvStep, h9, h4]) (by simp [rcvStep, h9, h5])
    intro h6 tk6 u1 u2 u3 n6 F6 N6
    (try dsimp only)
    k_steps
    all_goals
      rename Fr _ _ _ _ => F4; rename News _ _ _ _ => N4
      refine' hret _ (rcvL w d ec ⟨T9, v1, v2, v3, v4, v5, v6, _, _, v16, ts, b8, _, _, _, fl, _, _, _, _, _, _, _, _, _⟩ ++ (Y9 ++ (I ++ tl8))) _ _ F4 (cb_drop N4 ?mS) ⟨_, _, rfl, ?mA, ⟨rr8, ?st, ?me1, ?me2, ?me3⟩⟩
      case mS => simp only [List.cons_append, List.nil_append]; k_extra "mine:sub"
      case mA => exact ab8
      case st => (rw [hst]; dsimp only; exact RcvSt.on (by k_extra "mine:om"))
      case me1 => rfl
      case me2 => rfl
      case me3 => rfl
  | @on xx yy zz kk ta tb tc hk1 =>
    refine wpAny_call ?_
    k_dflt (k_extra "mine:enterL")
    k_steps
    rename Fr _ _ _ _ => F2; rename News _ _ _ _ => N2
    apply Stop.go
    (try k_fold)
    refine' Con.use (addn_con (M := (d, _) :: (ec, _) :: Y9) (I := I) (ps := a.rcv) ?mr7 ?ml7 ?mo7) ?mB7 F2 ?mX7 (cb_drop N2 ?mS7) ?mT7 ?mk7 ?md7 ?mu7 ?_
    case mr7 => k_extra "mine:rng"
    case ml7 => k_extra "mine:om"
    case mo7 =>
      intro p hp b hb
      rcases List.mem_cons.mp hb with rfl | hb
      · exact ho p (List.mem_append_right _ hp) _ (.head _)
      · rcases List.mem_cons.mp hb with rfl | hb
        · exact ho p (List.mem_append_right _ hp) _ (.tail _ (.head _))
        · exact hX p hp b hb
    case mS7 => k_extra "mine:sub"
    k_extra "mine:use7"
    rintro r8 n8 h8 tk8 F8 N8 ⟨b8, tl8, rfl, rfl, ab8, rr8⟩
    have hl8 := addRange_len a.rcv n9 n9
    (try dsimp only)
    dsimp only [List.nil_append, List.cons_append] at N8 ab8 rr8
    k_steps
    rename Fr _ _ _ _ => F3; rename News _ _ _ _ => N3
    apply Stop.go
    (try k_fold)
    refine' Con.use (kept_con (ps := addRange a.rcv n9 n9) ?mr7 ?ml7) ?mB7 F3 ?mX7 N3 ?mT7 ?mk7 ?md7 ?mu7 ?_
    case mr7 => k_extra "mine:rng"
    case ml7 => k_extra "mine:om"
    k_extra "mine:use7"
    rintro r7 n7 h7 tk7 F7 N7 ⟨rfl, rfl⟩
    obtain ⟨vs9, nn9, hl9, hps9⟩ := id rr8
    have hvl9 : vs9.length = (addRange a.rcv n9 n9).length := hps9.length
    (try dsimp only)
    k_steps
    have hst : (rcvStep a n9).ls = some (omax (some xx) n9) := by show some (omax a.ls n9) = _; rw [hla]
    have hm4 : mk9 = 0 ∨ mk9 = 1 ∨ mk9 = 2 ∨ mk9 = 3 := by k_extra "mine:om"
    rename Fr _ _ _ _ => F5; rename News _ _ _ _ => N5
    apply Stop.go
    refine ec_join (rcvStep a n9).e1 (rcvStep a n9).e2 (rcvStep a n9).e3 F5 N5 ?_ ?_
    · refine wpAny_If ?_
      rcases hm4 with rfl | rfl | rfl | rfl
      all_goals k_steps
      all_goals
        rename Fr _ _ _ _ => F4; rename News _ _ _ _ => N4
        exact EcEnd.intro F4 N4 (by simp [rcvStep, h9, h3]) (by simp [rcvStep, h9, h4]) (by simp [rcvStep, h9, h5])
    intro h6 tk6 u1 u2 u3 n6 F6 N6
    (try dsimp only)
    k_steps
    all_goals
      rename Fr _ _ _ _ => F4; rename News _ _ _ _ => N4
      refine' hret _ (rcvL w d ec ⟨T9, v1, v2, v3, v4, v5, v6, _, _, v16, ts, b8, _, _, _, fl, _, _, _, _, _, _, _, _, _⟩ ++ (Y9 ++ (I ++ tl8))) _ _ F4 (cb_drop N4 ?mS) ⟨_, _, rfl, ?mA, ⟨rr8, ?st, ?me1, ?me2, ?me3⟩⟩
      case mS => simp only [List.cons_append, List.nil_append]; k_extra "mine:sub"
      case mA => exact ab8
      case st => (rw [hst]; dsimp only; first | (rw [← omax_yes (by assumption)]; exact RcvSt.on (by k_extra "mine:om")) | (rw [← omax_no (by assumption)]; exact RcvSt.on (by k_extra "mine:om")))
      case me1 => rfl
      case me2 => rfl
      case me3 => rfl
end
section
theorem reset_21 : True := by
  w_top off
  exact trivial
theorem frame_con {w mean mg mb} {x d ec : Addr} {c : RcvC} {a : RcvA} {Y9 I : Led} {now : Int} {tn t0 : Tok} {lsv : Int} (hc : RcvOK w I c a) (hx : (x, instObj 245 d) ∈ I) (ho : OwnOff (Y9 ++ I) [d, ec]) (hde : @Ne Nat d ec) (hlen : a.rcv.length ≤ 32) (hne : 0 < a.rcv.length) (hls : a.ls = some lsv) :
   Con w mean mg mb 139 4 60 (rcvL w d ec c ++ (Y9 ++ I)) [.ref x, .int now tn, .int 0 t0] (fun r N => ∃ tp dl td rl mv ts n tl, r = .ref tp ∧ N = rcvL w d ec c ++ (Y9 ++ (I ++ tl)) ∧ Ab (rcvL w d ec c ++ (Y9 ++ I)) tl ∧ (tp, ({ cls := .type "tuple", data := .seq [.str (Str.ofString "ack") ts, .int dl td, .ref rl, mv].toArray n } : Obj)) ∈ tl ∧ RngIn (I ++ tl) rl a.rcv ∧ MarksIn tl mv a.e1 a.e2 a.e3) := by
  intro dp un gd cn cs ad ccd cl outer A₀ base h₀ L m sh sg sk st so Q E B F X N T hk hd hu hret
  obtain ⟨T9, v1, v2, v3, v4, v5, v6, v13, v14, v16, ts, rl, ls, lt, fu, fl, k, kt, e1, e2, e3, t1, t2, t3, en⟩ := c
  obtain ⟨hr, h2, h3, h4, h5⟩ := hc
  dsimp only at *
  obtain ⟨vs, nn, hl, hps⟩ := id hr
  have hvl : vs.length = a.rcv.length := hps.length
  dsimp only [List.cons_append, List.nil_append] at N
  rw [hls] at h2
  cases h2
  refine wpAny_call ?_
  k_dflt (k_extra "mine:enterL")
  k_steps
  · rename (_ : Int) = 0 => hz; exact absurd hz (by k_extra "mine:om")
  · rename_i D9 _ l9 _ F2 N2
    have l8 : ∀ p ∈ Y9 ++ I, p.1 < D9 := fun p hp => ktn_ltOf l9.2.2 p hp
    rename 0 < _ + (_ + (_ + _)) => hs9
    have hs8 : (0 : Int) < e1 + (e2 + (e3 + 0)) := hs9
    apply Stop.go
    (try k_fold)
    refine' Con.use (ackof_con (M := (d, _) :: (ec, _) :: Y9) (I := (D9, _) :: I) (ps := a.rcv) ?mr7 ?ml7 ?mz7) ?mB7 F2 ?mX7 (cb_drop N2 ?mS7) ?mT7 ?mk7 ?md7 ?mu7 ?_
    case mS7 => k_extra "mine:sub"
    case mr7 => k_extra "mine:rng"
    case ml7 => k_extra "mine:om"
    case mz7 => decide
    k_extra "mine:use7"
    rintro r9 n9 h9 tk9 F9 N9 ⟨b9, tl9, rfl, rfl, ab9, rr9⟩
    rw [List.take_of_length_le (by show _ ≤ 32; exact hlen)] at rr9
    (try dsimp only)
    dsimp only [List.nil_append, List.cons_append] at N9 ab9 rr9
    k_steps
    rename Fr _ _ _ _ => F3; rename News _ _ _ _ => N3
    refine' hret _ (rcvL w d ec ⟨T9, v1, v2, v3, v4, v5, v6, v13, v14, v16, ts, rl, _, _, _, fl, k, kt, e1, e2, e3, t1, t2, t3, en⟩ ++ (Y9 ++ (I ++ ((_, _) :: (D9, _) :: tl9)))) _ _ F3 (cb_drop N3 ?mS) ⟨_, _, _, _, _, _, _, _, rfl, rfl, ?mA, List.mem_cons_self, ?mR, ?mM⟩
    case mS => simp only [List.cons_append, List.nil_append]; k_extra "mine:sub"
    case mM =>
      rw [← h3, ← h4, ← h5]
      exact .tup (by k_extra "mine:om") (List.mem_cons_of_mem _ List.mem_cons_self)
    case mR => exact rr9.mono (by k_extra "mine:sub")
    case mA => simp only [List.cons_append, List.nil_append]; k_extra "mine:ab"
  · rename Fr _ _ _ _ => F2; rename News _ _ _ _ => N2
    rename ¬ 0 < _ + (_ + (_ + _)) => hs9
    have hs8 : ¬ (0 : Int) < e1 + (e2 + (e3 + 0)) := hs9
    apply Stop.go
    (try k_fold)
    refine' Con.use (ackof_con (M := (d, _) :: (ec, _) :: Y9) (I := I) (ps := a.rcv) ?mr7 ?ml7 ?mz7) ?mB7 F2 ?mX7 (cb_drop N2 ?mS7) ?mT7 ?mk7 ?md7 ?mu7 ?_
    case mS7 => k_extra "mine:sub"
    case mr7 => k_extra "mine:rng"
    case ml7 => k_extra "mine:om"
    case mz7 => decide
    k_extra "mine:use7"
    rintro r9 n9 h9 tk9 F9 N9 ⟨b9, tl9, rfl, rfl, ab9, rr9⟩
    rw [List.take_of_length_le (by show _ ≤ 32; exact hlen)] at rr9
    (try dsimp only)
    dsimp only [List.nil_append, List.cons_append] at N9 ab9 rr9
    k_steps
    rename Fr _ _ _ _ => F3; rename News _ _ _ _ => N3
    refine' hret _ (rcvL w d ec ⟨T9, v1, v2, v3, v4, v5, v6, v13, v14, v16, ts, rl, _, _, _, fl, k, kt, e1, e2, e3, t1, t2, t3, en⟩ ++ (Y9 ++ (I ++ ((_, _) :: tl9)))) _ _ F3 (cb_drop N3 ?mS) ⟨_, _, _, _, _, _, _, _, rfl, rfl, ?mA, List.mem_cons_self, ?mR, ?mM⟩
    case mS => simp only [List.cons_append, List.nil_append]; k_extra "mine:sub"
    case mM => exact .none (by k_extra "mine:om")
    case mR => exact rr9.mono (by k_extra "mine:sub")
    case mA => simp only [List.cons_append, List.nil_append]; k_extra "mine:ab"
end
section
local macro_rules | `(tactic| walk_at "mine:dummy") => `(tactic| skip)
theorem reset_22 : True := by
  w_top off
  exact trivial
theorem sender_con {w mean mg mb} {M : Int} {t : Tok} {I : Led} (h0 : 0 ≤ M) (h1 : M ≤ 60) :
   Con w mean mg mb 312 16 360 I [.int M t] (fun r N => ∃ x d sd c tl, r = .ref x ∧ N = sndL w d sd c ++ (I ++ tl) ∧ Ab I (sndL w d sd c ++ tl) ∧ (x, instObj 245 d) ∈ tl ∧ OwnOff (I ++ tl) [d, sd] ∧ (@Ne Nat d sd) ∧ SndOK w tl sd c ⟨M, rng M.toNat, none, []⟩) := by
  intro dp un gd cn cs ad ccd cl outer A₀ base h₀ L m sh sg sk st so Q E B F X N T hk hd hu hret
  refine md 1 ?_
  intro md1
  refine md 4 ?_
  intro md4
  refine md 8 ?_
  intro md8
  refine wpAny_call ?_
  k_dflt (k_extra "mine:enterL")
  k_steps
  rename Fr _ _ _ _ => F1; rename News _ _ _ _ => N1
  apply Stop.go
  (try k_fold)
  refine' Con.use (Con.snd (space_con (I := I))) ?mB7 F1 ?mX7 N1 ?mT7 ?mk7 ?md7 ?mu7 ?_
  k_extra "mine:use7"
  rintro r9 n9 h9 tk9 F9 N9 ⟨x, d, sd, c, tl, rfl, rfl, hab9, hxm, hof, hds, hok⟩
  (try dsimp only)
  k_steps
  apply Stop.go
  rename Fr _ _ _ _ => lF'
  (try k_fold)
  refine For_turns lF' ?_
  k_steps
  rename IsRange _ _ _ _ _ _ _ _ => rg9
  rename Fr _ _ _ _ => F1; rename News _ _ _ _ => N1
  apply Stop.go
  have hsz9 := range_sz 0 M
  rw [Int.sub_zero] at hsz9
  refine' floop_range (σ := SndC) (n := M.toNat) (fun c => sndL w d sd c) (fun c => []) ["turn"] (fun i c _ => SndOK w tl sd c ⟨i, rng i, none, []⟩) [d, sd] c (I ++ tl) rfl rg9 ?a0 hsz9 F1 N1 ?a1 ?a2 ?a3 ?a4 ?a5 ?a6 ?a7
  case a0 => exact range_sm (by k_extra "mine:om") (by k_extra "mine:om") (by k_extra "mine:om") (by k_extra "mine:om")
  case a1 => k_extra "mine:sub"
  case a2 => intro c; rfl
  case a3 => k_extra "mine:off"
  case a4 => k_extra "mine:binds"
  case a5 => exact hok
  case a6 =>
    rintro i t c add u h' tk own Q9 hQ9 hi hab hoo hoo2 hok F1 N1
    (try dsimp only)
    refine letF F1 ?_
    clear F1
    intro mF13 F1
    k_steps
    rename Fr _ _ _ _ => F2; rename News _ _ _ _ => N2
    apply Stop.go
    (try k_fold)
    refine' Con.use (taken_con (I := (add ++ (I ++ tl)) ++ own) (hok.mono ?ms8) ?mx8 ?mo8 hds) ?mB7 F2 ?mX7 N2 ?mT7 ?mk7 ?md7 ?mu7 ?_
    case ms8 => k_extra "mine:sub"
    case mx8 => k_extra "mine:mem"
    case mo8 => k_extra "mine:off"
    k_extra "mine:use7"
    rintro r9 n9 h9 tk9 F9 N9 ⟨t9, c9, rfl, rfl, hac9, hok9⟩
    (try dsimp only)
    dsimp only [sndL, List.cons_append, List.nil_append] at N9
    k_steps
    rename Fr _ _ _ _ => F3; rename News _ _ _ _ => N3
    apply Stop.go
    (try k_fold)
    refine' Con.use (onsent_con (I := (?fl, listOf [Value.ref ?ft].toArray 0) :: (?ft, pingObj ?ts 0) :: ((add ++ (I ++ tl)) ++ own)) (hok9.mono ?ms8) ?mx8 ?mo8 hds ?mf8 ?mt8 ?mn8 ?mz8) ?mB7 F3 ?mX7 (cb_drop N3 ?mS8) ?mT7 ?mk7 ?md7 ?mu7 ?_
    case mS8 => k_extra "mine:sub"
    case ms8 => k_extra "mine:sub"
    case mx8 => k_extra "mine:mem"
    case mo8 => k_extra "mine:off"
    case mf8 => k_extra "mine:mem"
    case mt8 => k_extra "mine:mem"
    case mn8 => rw [rng_len]; k_extra "mine:om"
    case mz8 => intro hz; have := (rng_mem.mp hz).2; k_extra "mine:om"
    k_extra "mine:use7"
    rintro r8 n8 h8 tk8 F8 N8 ⟨c8, tl8, rfl, hab8, hac8, hok8⟩
    (try dsimp only)
    k_steps
    rename Fr _ _ _ _ => F4; rename News _ _ _ _ => N4
    refine' hQ9 _ _ (LEnd.intro c8 ((_, listOf [Value.ref _].toArray 0) :: (_, pingObj _ 0) :: tl8) F4 N4 ?mK ?mN ?mA ?mS ?mP)
    case mK => k_extra "mine:binds"
    case mN => k_extra "mine:sub"
    case mA =>
      refine Ab.cons ?_ (Ab.cons ?_ ?_)
      · simp only [sndL, List.cons_append, List.nil_append]; k_extra "mine:ne"
      · simp only [sndL, List.cons_append, List.nil_append]; k_extra "mine:ne"
      · exact (sndL_ab2 hab8).sub (by k_extra "mine:sub")
    case mS => k_extra "mine:same"
    case mP =>
      refine ⟨hok8.n, hok8.la, ?_, ?_, hok8.lo⟩
      · rw [hac8, hac9]; exact hok.ack
      · rw [rng_succ]; exact hok8.sent
  case a7 =>
    rintro c add u h' tk hab hoo hok F1 N1
    (try dsimp only)
    refine letF F1 ?_
    clear F1
    intro mF14 F1
    k_steps
    rename Fr _ _ _ _ => F2; rename News _ _ _ _ => N2
    refine hret _ (sndL w d sd c ++ (I ++ (add ++ tl))) _ _ F2 (cb_drop N2 ?_) ⟨x, d, sd, c, add ++ tl, rfl, rfl, ?_, ?_, ?_, hds, ?_⟩
    · k_extra "mine:sub"
    · exact Ab.app (sndL_ab hab9) (Ab.app (hab.sub (by k_extra "mine:sub")) (Ab.app_r hab9))
    · k_extra "mine:mem"
    · k_extra "mine:off"
    · rw [show M = ((M.toNat : Nat) : Int) by k_extra "mine:om"]
      exact hok.mono (by k_extra "mine:sub")
end
section
theorem reset_23 : True := by
  w_top off
  exact trivial
theorem hear_con {w mean mg mb} {x d sd : Addr} {c : SndC} {a : SndA} {I : Led} {l : Addr} {ps : List P2} (hc : SndOK w I sd c a) (hx : (x, instObj 245 d) ∈ I) (ho : OwnOff I [d, sd]) (hds : @Ne Nat d sd)
   (hr : RngIn I l ps) (hlen : ps.length ≤ 60) (hp : ∀ p ∈ ps, p.2 < a.n) (hn : a.sent.length ≤ 60) (hal : a.ack.length ≤ 200) :
   Con w mean mg mb 319 10 180 (sndL w d sd c ++ I) [.ref x, .ref l] (fun r N => ∃ c' a' tl, r = .bool true ∧ N = sndL w d sd c' ++ (I ++ tl) ∧ Ab (sndL w d sd c ++ I) tl ∧ Hear ps a a' ∧ (∀ J, SndOK w J sd c a → SndOK w (J ++ tl) sd c' a')) := by
  intro dp un gd cn cs ad ccd cl outer A₀ base h₀ L m sh sg sk st so Q E B F X N T hk hd hu hret
  refine md 1 ?_
  intro md1
  refine md 6 ?_
  intro md6
  refine wpAny_call ?_
  k_dflt (k_extra "mine:enterL")
  k_steps
  rename Fr _ _ _ _ => F1; rename News _ _ _ _ => N1
  apply Stop.go
  refine' eq_dat N1 hr.dat ?ms1 (nil_dat (List.mem_singleton.mpr rfl)) ?ms2 (datR_ok8 _) (datR_ok8 _) ?mu (fun e => ?_) (fun e => ?_)
  case ms1 => k_extra "mine:sub"
  case ms2 => k_extra "mine:sub"
  case mu => k_extra "mine:units"
  · k_steps
    rename Fr _ _ _ _ => F2; rename News _ _ _ _ => N2
    refine' hret _ (sndL w d sd c ++ (I ++ [])) _ _ F2 (cb_drop N2 ?mS) ⟨c, a, [], rfl, rfl, Ab.nil, .inl ⟨datR_iff.mp e, rfl⟩, fun J h => by rw [List.append_nil]; exact h⟩
    case mS => rw [List.append_nil]; k_extra "mine:sub"
  · cases ps with
    | nil => exact absurd rfl e
    | cons p qs =>
    obtain ⟨vs, nn, hl, hps⟩ := id hr
    cases hps with | @cons v0 vs _ _ h0 hps =>
    cases h0 with | @mk a0 px py t0 u0 n0 hm0 =>
    k_steps
    rename Fr _ _ _ _ => F2; rename News _ _ _ _ => N2
    apply Stop.go
    (try k_fold)
    refine' Con.use (beyond_con (I := I) hc hx ho hds hr ?h1 ?h2) ?mB7 F2 ?mX7 (cb_drop N2 ?mS7) ?mT7 ?mk7 ?md7 ?mu7 ?_
    case mS7 => k_extra "mine:sub"
    case h1 => simp only [List.length_cons] at hlen; k_extra "mine:om"
    case h2 => exact hp _ (.head _)
    k_extra "mine:use7"
    rintro r9 n9 h9 tk9 F9 N9 ⟨rfl, rfl⟩
    (try dsimp only)
    k_steps
    rename Fr _ _ _ _ => F2; rename News _ _ _ _ => N2
    apply Stop.go
    (try k_fold)
    refine' Con.use (acked_con (I := I) hc hx ho hds hr (Nat.le_trans hlen (by decide)) hn) ?mB7 F2 ?mX7 (cb_drop N2 ?mS7) ?mT7 ?mk7 ?md7 ?mu7 ?_
    case mS7 => k_extra "mine:sub"
    k_extra "mine:use7"
    rintro r9 n9 h9 tk9 F9 N9 ⟨b, tl1, ms, rfl, rfl, ab1, ii1, pm1, pw1⟩
    have hml : ms.length ≤ 60 := by rw [pm1.length_eq]; exact Nat.le_trans (List.length_filter_le _ _) hn
    (try dsimp only)
    k_steps
    rename Fr _ _ _ _ => F2; rename News _ _ _ _ => N2
    apply Stop.go
    (try k_fold)
    refine' Con.use (notel_con (I := I ++ tl1) (hc.mono ?h1) ?h2 ?h3 hds) ?mB7 F2 ?mX7 (cb_drop N2 ?mS7) ?mT7 ?mk7 ?md7 ?mu7 ?_
    case h1 => k_extra "mine:sub"
    case h2 => k_extra "mine:mem"
    case h3 => exact OwnOff.app ho (snd_off ab1)
    case mS7 => k_extra "mine:sub"
    k_extra "mine:use7"
    rintro r9 n9 h9 tk9 F9 N9 ⟨c1, rfl, rfl, hc1⟩
    (try dsimp only)
    k_steps
    rename Fr _ _ _ _ => F2; rename News _ _ _ _ => N2
    apply Stop.go
    (try k_fold)
    refine' Con.use (takes_con (I := I ++ tl1) hc1 ?h2 ?h3 hds (ii1.mono ?h1) hml hn) ?mB7 F2 ?mX7 (cb_drop N2 ?mS7) ?mT7 ?mk7 ?md7 ?mu7 ?_
    case h1 => k_extra "mine:sub"
    case h2 => k_extra "mine:mem"
    case h3 => exact OwnOff.app ho (snd_off ab1)
    case mS7 => k_extra "mine:sub"
    k_extra "mine:use7"
    rintro r9 n9 h9 tk9 F9 N9 ⟨c2, tl2, rfl, ab2, hc2⟩
    (try dsimp only)
    k_steps
    rename Fr _ _ _ _ => F2; rename News _ _ _ _ => N2
    apply Stop.go
    (try k_fold)
    refine' Con.use (noter_con (I := (I ++ tl1) ++ tl2) (hc2.mono ?h1) ?h2 ?h3 hds (hr.mono ?h4) hlen ?h5 hal) ?mB7 F2 ?mX7 (cb_drop N2 ?mS7) ?mT7 ?mk7 ?md7 ?mu7 ?_
    case h1 => k_extra "mine:sub"
    case h2 => k_extra "mine:mem"
    case h3 => exact OwnOff.app (OwnOff.app ho (snd_off ab1)) (snd_off ab2)
    case h4 => k_extra "mine:sub"
    case h5 => exact Nat.le_trans (List.length_filter_le _ _) hn
    case mS7 => k_extra "mine:sub"
    k_extra "mine:use7"
    rintro r9 n9 h9 tk9 F9 N9 ⟨c3, tl3, least, rfl, rfl, ab3, hle, hc3⟩
    (try dsimp only)
    k_steps
    rename Fr _ _ _ _ => F2; rename News _ _ _ _ => N2
    refine' hret _ (sndL w d sd c3 ++ (I ++ (tl1 ++ (tl2 ++ tl3)))) _ _ F2 (cb_drop N2 ?mS) ⟨c3, _, _, rfl, rfl, ?mA, .inr ⟨(px, py), qs, least, rfl, ?mL, rfl⟩, fun J h => ?mJ⟩
    case mS => k_extra "mine:sub"
    case mA =>
      refine Ab.app ab1 (Ab.app (fun q hq p hp => ?_) (fun q hq p hp => ?_))
      · rcases List.mem_append.mp hp with h | h
        · exact (sndL_ab2 (c' := c) ab2) q hq p (List.mem_append_left _ h)
        · exact ab2 q hq p (List.mem_append_right _ (List.mem_append_left _ h))
      · rcases List.mem_append.mp hp with h | h
        · exact (sndL_ab2 (c' := c) ab3) q hq p (List.mem_append_left _ h)
        · exact ab3 q hq p (List.mem_append_right _ (List.mem_append_left _ (List.mem_append_left _ h)))
    case mL =>
      dsimp only at hle ⊢
      rw [filter_notin pm1] at hle; exact hle
    case mJ =>
      have h3 := hc3.mono (J := J ++ (tl1 ++ (tl2 ++ tl3))) (by k_extra "mine:sub")
      dsimp only at h3
      rw [filter_notin pm1] at h3
      exact h3
end
section
local macro_rules | `(tactic| walk_at "mine:dummy") => `(tactic| skip)
theorem reset_24 : True := by
  w_top off
  exact trivial
theorem behind_con {w mean mg mb} {M : Nat} {t : Tok} {I : Led} {l : Addr} {wss : List (List P2)} (h1 : M ≤ 50) (hw : WordsIn I l wss) (hg : ∀ ws ∈ wss, Good M ws) :
   Con w mean mg mb 326 20 420 I [.int M t, .ref l] (fun r N => ∃ tp sl ac lv n9 a tl, r = .ref tp ∧ N = I ++ tl ∧ Ab I tl ∧ (tp, ({ cls := .type "tuple", data := .seq [.ref sl, lv, .ref ac].toArray n9 } : Obj)) ∈ tl ∧ IntsIn tl sl a.sent ∧ OptI lv a.la ∧ RngIn N ac a.ack ∧ SInv M wss a) := by
  intro dp un gd cn cs ad ccd cl outer A₀ base h₀ L m sh sg sk st so Q E B F X N T hk hd hu hret
  refine md 1 ?_
  intro md1
  refine md 4 ?_
  intro md4
  obtain ⟨vs, nn, hl, hws⟩ := id hw
  have hvl : vs.length = wss.length := hws.length
  refine wpAny_call ?_
  k_dflt (k_extra "mine:enterL")
  k_steps
  rename Fr _ _ _ _ => F1; rename News _ _ _ _ => N1
  apply Stop.go
  (try k_fold)
  refine' Con.use (sender_con (I := I) (Int.natCast_nonneg M) (by k_extra "mine:om")) ?mB7 F1 ?mX7 N1 ?mT7 ?mk7 ?md7 ?mu7 ?_
  k_extra "mine:use7"
  rintro r9 n9 h9 tk9 F9 N9 ⟨x, d, sd, c, tl, rfl, rfl, hab9, hxm, hof, hds, hok⟩
  (try dsimp only)
  k_steps
  rename Fr _ _ _ _ => F1; rename News _ _ _ _ => N1
  apply Stop.go
  rw [Int.toNat_natCast] at hok
  have hs0 := SInv.start M
  refine' floop_list (σ := SndC) (vs := vs) (nn := nn) (fun c => sndL w d sd c) (fun c => []) ["ranges"] (fun i c J => ∃ a, SndOK w J sd c a ∧ SInv M (wss.take i) a) [d, sd] c (I ++ tl) rfl ?a0 F1 N1 ?a1 ?a2 ?a3 ?a4 ?a5 ?a6 ?a7
  case a0 => k_extra "mine:mem"
  case a1 => k_extra "mine:sub"
  case a2 => intro c; rfl
  case a3 => exact hof
  case a4 => k_extra "mine:binds"
  case a5 => exact ⟨_, hok.mono (by k_extra "mine:sub"), hs0⟩
  case a6 =>
    rintro i v c add u h' tk own Q9 hQ9 hv hab hoo hoo2 ⟨a, hok, hsi⟩ F1 N1
    obtain ⟨b, ws, rfl, hp, hrb⟩ := hws.get hv
    have hgw := hg ws (List.mem_of_getElem? hp)
    (try dsimp only)
    refine letF F1 ?_
    clear F1
    intro mF3 F1
    k_steps
    rename Fr _ _ _ _ => F2; rename News _ _ _ _ => N2
    apply Stop.go
    (try k_fold)
    refine' Con.use (hear_con (I := (add ++ (I ++ tl)) ++ own) (hok.mono ?ms8) ?mx8 hoo hds (hrb.mono ?mr8) ?ml8 ?mp8 ?mn8 ?mz8) ?mB7 F2 ?mX7 N2 ?mT7 ?mk7 ?md7 ?mu7 ?_
    case ms8 => k_extra "mine:sub"
    case mx8 => k_extra "mine:mem"
    case mr8 => k_extra "mine:sub"
    case ml8 => have := hgw.1.len hgw.2; k_extra "mine:om"
    case mp8 => intro p hp; rw [hsi.n]; exact (hgw.2 _ (InR.mem hp (hgw.1.mem p hp))).2
    case mn8 => have := hsi.sent_len; k_extra "mine:om"
    case mz8 => have := hsi.ack_len (fun ws h => hg ws (List.mem_of_mem_take h)); k_extra "mine:om"
    k_extra "mine:use7"
    rintro r9 n9 h9 tk9 F9 N9 ⟨c', a', tl', rfl, rfl, hab8, hh, hj⟩
    (try dsimp only)
    k_steps
    rename Fr _ _ _ _ => F3; rename News _ _ _ _ => N3
    refine' hQ9 _ _ (LEnd.intro c' tl' F3 N3 ?mK ?mN ?mA ?mS ⟨a', ?mP, ?mQ⟩)
    case mK => k_extra "mine:binds"
    case mN => k_extra "mine:sub"
    case mA => exact sndL_ab2 hab8
    case mS => k_extra "mine:same"
    case mP => exact (hj _ hok).mono (by k_extra "mine:sub")
    case mQ => rw [take_succ_snoc hp]; exact hsi.step hgw hh
  case a7 =>
    rintro c add u h' tk hab hoo ⟨a, hok, hsi⟩ F1 N1
    rw [hvl, List.take_length] at hsi
    have hsl := hsi.sent_len
    obtain ⟨T9, v0, v5, v6, v7, v8, v9, v10, v11, v12, v13, v14, v15, v16, la, n, nt, ac, o⟩ := c
    obtain ⟨h1, h2, h3, ⟨kvs, hd9, hk9⟩, h5⟩ := hok
    have hkl : kvs.length = a.sent.length := by rw [← hk9, List.length_map]
    dsimp only at h1 h2 h3 hd9 hk9 h5 N1
    dsimp only [sndL, List.cons_append, List.nil_append] at N1
    (try dsimp only)
    generalize hla : a.la = ala at h2
    cases h2
    all_goals
      refine letF F1 ?_
      clear F1
      intro mF4 F1
      k_steps
      rename Fr _ _ _ _ => F2; rename News _ _ _ _ => N2
      rename IntsAre _ _ => hI2
      rename List.Perm _ _ => hp2
      rename List.Pairwise _ _ => hw2
      have e2 := sorted_eq (hp2.trans (List.Perm.of_eq hk9)) hw2 hsi.sorted
      subst e2
      refine' hret _ (I ++ ((_, _) :: (_, _) :: (add ++ ((d, _) :: (sd, o) :: tl)))) _ _ F2 (cb_drop N2 ?mS) ⟨_, _, ac, _, _, a, _, rfl, rfl, ?mA, List.mem_cons_self, ⟨_, _, List.mem_cons_of_mem _ List.mem_cons_self, hI2⟩, ?mO, ?mR, hsi⟩
      case mS => k_extra "mine:sub"
      case mO => rw [hla]; constructor
      case mR => exact h3.mono (by k_extra "mine:sub")
      case mA =>
        refine Ab.cons ?_ (Ab.cons ?_ (Ab.app ?_ (Ab.cons ?_ (Ab.cons ?_ ?_))))
        · k_extra "mine:ne"
        · k_extra "mine:ne"
        · k_extra "mine:ab"
        · exact fun p hp => hof p (List.mem_append_left _ hp) d (.head _)
        · exact fun p hp => hof p (List.mem_append_left _ hp) sd (.tail _ (.head _))
        · exact hab9.app_r
end
section
theorem reset_25 : True := by
  w_top off
  exact trivial
set_option genSizeOf false in
set_option genInjectivity false in
structure TlC where
  o : Obj
  l : Addr
  ts : List Int
set_option genSizeOf false in
set_option genInjectivity false in
structure CutC extends TlC where
  s : SndC
theorem cut_con {w mean mg mb} {M : Nat} {t : Tok} {I : Led} {l : Addr} {wss : List (List P2)} (h1 : M ≤ 50) (hw : WordsIn I l wss) (hg : ∀ ws ∈ wss, Good M ws) (hwl : wss.length ≤ 12) (hM1 : 1 ≤ M) :
   Con w mean mg mb 331 20 420 I [.int M t, .ref l] (fun r N => ∃ tl, r = .bool true ∧ N = I ++ tl ∧ Ab I tl) := by
  intro dp un gd cn cs ad ccd cl outer A₀ base h₀ L m sh sg sk st so Q E B F X N T hk hd hu hret
  refine md 1 ?_
  intro md1
  refine md 4 ?_
  intro md4
  refine md 5 ?_
  intro md5
  refine md 7 ?_
  intro md7
  obtain ⟨vs, nn, hl, hws⟩ := id hw
  have hvl : vs.length = wss.length := hws.length
  refine wpAny_call ?_
  k_dflt (k_extra "mine:enterC")
  k_steps
  rename Fr _ _ _ _ => F1; rename News _ _ _ _ => N1
  rename_i g9 L9 h9 tk9 FG9 X9 T9 lA9 o9 d9 _
  apply Stop.go
  (try k_fold)
  refine' Con.use (sender_con (I := (L9 + 1, o9) :: I) (Int.natCast_nonneg M) (by k_extra "mine:om")) ?mB7 F1 ?mX7 N1 ?mT7 ?mk7 ?md7 ?mu7 ?_
  k_extra "mine:use7"
  rintro r8 n8 h8 tk8 F8 N8 ⟨x, d, sd, c, tl, rfl, rfl, hab9, hxm, hof, hds, hok⟩
  (try dsimp only)
  have hL9 : @LT.lt Nat _ L9 (L9 + 1) := Nat.lt_succ_self _
  have hcd : @Ne Nat (L9 + 1) d := hof (L9 + 1, o9) (.head _) d (.head _)
  have hcs : @Ne Nat (L9 + 1) sd := hof (L9 + 1, o9) (.head _) sd (.tail _ (.head _))
  have hct : ∀ p ∈ I ++ tl, p.1 ≠ L9 + 1 := fun p hp => by
    rcases List.mem_append.mp hp with h | h
    · exact Nat.ne_of_lt (Nat.lt_succ_of_lt (l1z p h))
    · exact Ne.symm (hab9 p (List.mem_append_right _ h) (L9 + 1, o9) (.head _))
  have hof : OwnOff (I ++ tl) [L9 + 1, d, sd] := OwnOff.add (OwnOff.sub hof (by k_extra "mine:sub")) hct
  have N8 := cb_drop (news := (L9 + 1, o9) :: (sndL w d sd c ++ (I ++ tl))) N8 (by k_extra "mine:sub")
  dsimp only [sndL, List.cons_append, List.nil_append] at N8
  k_steps
  rename Fr _ _ _ _ => F1; rename News _ _ _ _ => N1
  rename_i Dt ht lAt lt D2 h2 h3 h4 h5 oc dc
  apply Stop.go
  rw [Int.toNat_natCast] at hok
  have hs0 := SInv.start M
  refine' floop_list (σ := CutC) (vs := vs) (nn := nn) (fun c => (L9 + 1, c.o) :: sndL w d sd c.s) (fun c => []) ["ranges", "low", "high", "out", "least", "noted"]
    (fun i c J => c.o.data = .cell (some (.ref c.l)) ∧ (∃ a, SndOK w J sd c.s a ∧ SInv M (wss.take i) a) ∧ IntsIn J c.l c.ts ∧ (∀ x, x ∈ c.ts ↔ told (wss.take i) x = true) ∧ c.ts.length ≤ 2700 * i) [L9 + 1, d, sd] ⟨⟨oc, Dt, []⟩, c⟩ ((Dt, listOf [].toArray 0) :: (I ++ tl)) rfl ?a0 F1 N1 ?a1 ?a2 ?a3 ?a4 ?a5 ?a6 ?a7
  case a0 => k_extra "mine:mem"
  case a1 => k_extra "mine:sub"
  case a2 => intro c; rfl
  case a3 => k_extra "mine:off"
  case a4 => k_extra "mine:binds"
  case a5 => 
    refine ⟨dc, ⟨_, hok.mono ?_, hs0⟩, ⟨[], 0, .head _, .nil⟩, fun x => ?_, Nat.zero_le _⟩
    · k_extra "mine:sub"
    · simp [told]
  case a6 =>
    rintro i v c add u h' tk own Q9 hQ9 hv hab hoo hoo2 ⟨hco, ⟨a, hok, hsi⟩, hti, htm, htl⟩ F1 N1
    obtain ⟨⟨co, cl9, cts⟩, cs9⟩ := c
    dsimp only at *
    obtain ⟨b, ws, rfl, hp, hrb⟩ := hws.get hv
    have hgw := hg ws (List.mem_of_getElem? hp)
    (try dsimp only)
    refine letF F1 ?_
    clear F1
    intro mF5 F1
    k_steps
    rename Fr _ _ _ _ => F2; rename News _ _ _ _ => N2
    apply Stop.go
    (try k_fold)
    refine' Con.use (hear_con (I := (L9 + 1, co) :: ((add ++ ((Dt, listOf [].toArray 0) :: (I ++ tl))) ++ own)) (hok.mono ?ms8) ?mx8 ?mo8 hds (hrb.mono ?mr8) ?ml8 ?mp8 ?mn8 ?mz8) ?mB7 F2 ?mX7 (cb_drop N2 ?mS8) ?mT7 ?mk7 ?md7 ?mu7 ?_
    case mS8 => k_extra "mine:sub"
    case ms8 => k_extra "mine:sub"
    case mo8 =>
      intro p hp b hb
      rcases List.mem_cons.mp hp with rfl | hp
      · simp only [List.mem_cons, List.not_mem_nil, or_false] at hb
        rcases hb with rfl | rfl
        · exact hcd
        · exact hcs
      · exact hoo p hp b (.tail _ hb)
    case mx8 => k_extra "mine:mem"
    case mr8 => k_extra "mine:sub"
    case ml8 => have := hgw.1.len hgw.2; k_extra "mine:om"
    case mp8 => intro p hp; rw [hsi.n]; exact (hgw.2 _ (InR.mem hp (hgw.1.mem p hp))).2
    case mn8 => have := hsi.sent_len; k_extra "mine:om"
    case mz8 => have := hsi.ack_len (fun ws h => hg ws (List.mem_of_mem_take h)); k_extra "mine:om"
    k_extra "mine:use7"
    rintro r7 n7 h7 tk7 F7 N7 ⟨c', a', tl', rfl, rfl, hab8, hh, hj⟩
    have hok' := hj _ hok
    have hsi' := hsi.step hgw hh
    (try dsimp only)
    have N7 := cb_drop (news := (L9 + 1, co) :: (sndL w d sd c' ++ (((add ++ ((Dt, listOf [].toArray 0) :: (I ++ tl))) ++ own) ++ tl'))) N7 (by k_extra "mine:sub")
    k_steps
    rename Fr _ _ _ _ => F3; rename News _ _ _ _ => N3
    apply Stop.go
    obtain ⟨vs2, nn2, hl2, hps2⟩ := id hrb
    have hvl2 : vs2.length = ws.length := hps2.length
    have hwl2 : ws.length ≤ 51 := by have := hgw.1.len hgw.2; k_extra "mine:om"
    have hil : i < 12 := by have := (List.getElem?_eq_some_iff.mp hp).1; k_extra "mine:om"
    have hmle : ∀ p ∈ ws, p.1 ≤ p.2 ∧ 0 ≤ p.1 ∧ p.2 < M := fun p hp => ⟨hgw.1.mem p hp, (hgw.2 p.1 ⟨p, hp, Int.le_refl _, hgw.1.mem p hp⟩).1, (hgw.2 _ (InR.mem hp (hgw.1.mem p hp))).2⟩
    refine' floop_list (σ := TlC) (vs := vs2) (nn := nn2) (fun c => [(L9 + 1, c.o)]) (fun c => []) ["low", "high"]
      (fun j c J => c.o.data = .cell (some (.ref c.l)) ∧ (∃ X, J = X ++ (sndL w d sd c' ++ (((add ++ ((Dt, listOf [].toArray 0) :: (I ++ tl))) ++ own) ++ tl')) ∧ IntsIn (X ++ (add ++ ((Dt, listOf [].toArray 0) :: (I ++ tl)))) c.l c.ts) ∧ c.ts = cts ++ flat (ws.take j) ∧ c.ts.length ≤ cts.length + 51 * j) [L9 + 1] ⟨co, cl9, cts⟩ (sndL w d sd c' ++ (((add ++ ((Dt, listOf [].toArray 0) :: (I ++ tl))) ++ own) ++ tl')) rfl ?b0 F3 N3 ?b1 ?b2 ?b3 ?b4 ?b5 ?b6 ?b7
    case b0 => k_extra "mine:mem"
    case b1 => k_extra "mine:sub"
    case b2 => intro c; rfl
    case b3 =>
      refine OwnOff.app ?_ (OwnOff.app ?_ ?_)
      · intro p hp b hb
        simp only [List.mem_cons, List.not_mem_nil, or_false] at hp hb
        rcases hp with rfl | rfl <;> subst hb
        · exact Ne.symm hcd
        · exact Ne.symm hcs
      · exact fun p hp b hb => hoo p hp b (List.mem_cons.mpr (.inl (List.mem_singleton.mp hb)))
      · exact fun p hp b hb => by rw [List.mem_singleton.mp hb]; exact Ne.symm (hab8 p hp (L9 + 1, co) (List.mem_append_right _ (.head _)))
    case b4 => k_extra "mine:binds"
    case b5 => exact ⟨hco, ⟨[], rfl, hti⟩, by simp [flat], by simp⟩
    case b6 =>
      rintro j v c2 add2 u2 h2' tk2 own2 Q9 hQ9 hv2 hab2 hoo2' hoo3 ⟨hco2, ⟨X2, hX2, hti2⟩, hts2, htl2⟩ F4 N4
      obtain rfl := List.append_cancel_right hX2
      obtain ⟨co2, cl2, ts2⟩ := c2
      dsimp only at *
      obtain ⟨p2, hp2, hpi2⟩ := hps2.get hv2
      have hj2 : j < ws.length := (List.getElem?_eq_some_iff.mp hp2).1
      obtain ⟨hx1, hx2, hx3⟩ := hmle p2 (List.mem_of_getElem? hp2)
      cases hpi2 with | @mk pa2 px2 py2 pt2 pu2 pn2 hm2 =>
      dsimp only at hx1 hx2 hx3
      have hti3 := hti2.mono (J := add2 ++ (sndL w d sd c' ++ (((add ++ ((Dt, listOf [].toArray 0) :: (I ++ tl))) ++ own) ++ tl'))) (by k_extra "mine:sub")
      obtain ⟨vs3, nn3, hl3, his3⟩ := id hti3
      have hvl3 : vs3.length = ts2.length := his3.length
      dsimp only [List.cons_append, List.nil_append] at N4 hl3
      (try dsimp only)
      k_steps
      rename IntsAre _ (span _ _) => hI9
      have hI9l := hI9.length
      rw [span_len] at hI9l
      k_steps
      rename Fr _ _ _ _ => F5; rename News _ _ _ _ => N5
      rename Obj.data _ = Data.cell (some (Value.ref _)) => hco5
      rename_i D9 cn9 h91 tk91 vs9 lA91 l91 C9 h92 h93 o9x
      refine' hQ9 _ _ (LEnd.intro ⟨o9x, C9, ts2 ++ span px2 (py2 + 1 - px2).toNat⟩ [(C9, listOf (vs3 ++ vs9).toArray 0), (D9, listOf vs9.toArray cn9)] F5 N5 ?mK ?mN ?mA ?mS ⟨hco5, ⟨[(C9, listOf (vs3 ++ vs9).toArray 0), (D9, listOf vs9.toArray cn9)] ++ add2, (List.append_assoc _ _ _).symm, ⟨vs3 ++ vs9, 0, .head _, IntsAre.append his3 hI9⟩⟩, ?mT, ?mL⟩)
      case mK => k_extra "mine:binds"
      case mN => simp only [List.cons_append, List.nil_append]; k_extra "mine:sub"
      case mA => simp only [List.cons_append, List.nil_append]; refine Ab.re (o1 := co2) ?_; k_extra "mine:ab"
      case mS => k_extra "mine:same"
      case mT => dsimp only; rw [take_succ_snoc hp2, flat_snoc, hts2, List.append_assoc]
      case mL => dsimp only; rw [List.length_append, span_len]; k_extra "mine:om"
    case b7 =>
      rintro c2 add2 u2 h2' tk2 hab2 hoo2' ⟨hco2, ⟨X2, hX2, hti2⟩, hts2, htl2⟩ F4 N4
      obtain rfl := List.append_cancel_right hX2
      obtain ⟨co2, cl2, ts2⟩ := c2
      obtain ⟨T9, v0, v5, v6, v7, v8, v9, v10, v11, v12, v13, v14, v15, v16, la, nx, nt, ac, o⟩ := c'
      have hok2 := hok'
      obtain ⟨h1', h2', h3', ⟨kvs, hd9, hk9⟩, h5'⟩ := hok'
      have hkl : kvs.length = a'.sent.length := by rw [← hk9, List.length_map]
      have hsl' := hsi'.sent_len
      dsimp only at *
      rw [hvl2, List.take_length] at hts2
      rw [hvl2] at htl2
      have hti3 := hti2.mono (J := add2 ++ (sndL w d sd ⟨T9, v0, v5, v6, v7, v8, v9, v10, v11, v12, v13, v14, v15, v16, la, nx, nt, ac, o⟩ ++ (((add ++ ((Dt, listOf [].toArray 0) :: (I ++ tl))) ++ own) ++ tl'))) (by k_extra "mine:sub")
      obtain ⟨vs3, nn3, hl3, his3⟩ := id hti3
      have hvl3 : vs3.length = ts2.length := his3.length
      have htm' : ∀ x, x ∈ ts2 ↔ told (wss.take i ++ [ws]) x = true := fun x => by rw [hts2, List.mem_append, htm, flat_mem, told_app, Bool.or_eq_true, hasNum_iff]
      have hout : a'.sent = (span 0 M).filter fun x => decide (x ∉ ts2) := by
        rw [hsi'.sent, rng_span]
        apply List.filter_congr
        intro x _
        cases ht : told (wss.take i ++ [ws]) x <;> simp [htm', ht]
      dsimp only [List.cons_append, List.nil_append] at N4 hl3
      (try dsimp only)
      k_steps
      apply Stop.go
      rename Fr _ _ _ _ => F5; rename News _ _ _ _ => N5
      rename IsRange _ _ _ _ _ _ _ _ => rg5
      refine CompSrcT.range (n := M) (by rfl) F5 N5 rg5 (range_sm (by k_extra "mine:om") (by k_extra "mine:om") (by k_extra "mine:om") (by k_extra "mine:om")) (by rw [range_sz]; k_extra "mine:om") (by rw [PySem.sizeLine_eq]; k_extra "mine:om") ?_
      intro g9
      refine restT (fun i ys tl => IntsAre ys ((span 0 i).filter fun x => decide (x ∉ ts2))) (fun _ => trivial) .nil ?_ ?_
      · rintro i5 ys tl5 hi9 hab hys v it oit C oC D m₂ h9 tk9 E9 hv hoC hx1 F2 N2 off ne
        obtain ⟨t9, rfl⟩ := hv
        dsimp only [List.cons_append, List.nil_append] at N2
        k_steps
        all_goals (rename Fr _ _ _ _ => F3; rename News _ _ _ _ => N3)
        · refine' TEnd.intro [] F3 N3 ?mS Ab.nil ?mR
          case mS => simp only [List.cons_append, List.nil_append]; k_extra "mine:sub"
          case mR => (try dsimp only); rw [filter_span_yes (f := fun x => decide (x ∉ ts2)) (decide_eq_true (by assumption))]; exact IntsAre.append hys (.cons _ _ .nil)
        · refine' TEnd.intro [] F3 N3 ?mS Ab.nil ?mR
          case mS => simp only [List.cons_append, List.nil_append]; k_extra "mine:sub"
          case mR => (try dsimp only); rw [filter_span_no (f := fun x => decide (x ∉ ts2)) (decide_eq_false (by assumption))]; exact hys
      · rintro ys tl5 hab5 hys
        rw [← hout] at hys
        k_steps
        rename Fr _ _ _ _ => F6; rename News _ _ _ _ => N6
        apply Stop.go
        refine join_same F6 N6 ?_ ?_
        · generalize hla : a'.la = ala at h2'
          have hlk := hsi'.la
          rw [hla] at hlk
          cases h2' with
          | none =>
            have ht0 : ts2 = [] := by
              cases hts : ts2 with
              | nil => rfl
              | cons y ys => have := (htm' y).mp (by rw [hts]; exact .head _); rw [hlk y] at this; cases this
            k_steps
            rename IntsAre _ _ => hI6
            rename List.Perm _ _ => hp6
            rename List.Pairwise _ _ => hw6
            rename News _ _ _ _ => N7
            have e6 := sorted_eq (hp6.trans (List.Perm.of_eq hk9)) hw6 hsi'.sorted
            subst e6
            apply Stop.go
            refine' ne_dat N7 (IntsIn.dat ⟨_, _, ?m1, hI6⟩) (fun p h => h) (IntsIn.dat ⟨_, _, ?m2, hys⟩) (fun p h => h) (datI_ok8 _) (datI_ok8 _) ?mu (fun _ => ?_) (fun e => absurd rfl e)
            case m1 => k_extra "mine:mem"
            case m2 => k_extra "mine:mem"
            case mu => k_extra "mine:units"
            k_steps
            rename Fr _ _ _ _ => F8; rename News _ _ _ _ => N8
            apply Stop.go
            refine' ne_dat N8 (IntsIn.dat ⟨_, _, ?m1, his3⟩) (fun p h => h) (nil_datI ?m2) (fun p h => h) (datI_ok8 _) (datI_ok8 _) ?mu (fun _ => ?_) (fun e => absurd (datI_iff.mpr ht0) e)
            case m2 => exact List.mem_cons_self
            case m1 => k_extra "mine:mem"
            case mu => k_extra "mine:units"
            k_steps
            rename Fr _ _ _ _ => F9; rename News _ _ _ _ => N9
            refine JoinEnd.intro () F9 N9 ?_ trivial
            k_extra "mine:sub"
          | @int mx mt =>
            have ht0 : mx ∈ ts2 ∧ ∀ x ∈ ts2, x ≤ mx := ⟨(htm' mx).mpr hlk.1, fun x hx => hlk.2 x ((htm' x).mp hx)⟩
            have ht1 : ts2 ≠ [] := fun e => by rw [e] at ht0; exact nomatch ht0.1
            have ht2 : 0 < ts2.length := List.length_pos_of_mem ht0.1
            k_steps
            rename IntsAre _ _ => hI6
            rename List.Perm _ _ => hp6
            rename List.Pairwise _ _ => hw6
            rename News _ _ _ _ => N7
            have e6 := sorted_eq (hp6.trans (List.Perm.of_eq hk9)) hw6 hsi'.sorted
            subst e6
            apply Stop.go
            refine' ne_dat N7 (IntsIn.dat ⟨_, _, ?m1, hI6⟩) (fun p h => h) (IntsIn.dat ⟨_, _, ?m2, hys⟩) (fun p h => h) (datI_ok8 _) (datI_ok8 _) ?mu (fun _ => ?_) (fun e => absurd rfl e)
            case m1 => k_extra "mine:mem"
            case m2 => k_extra "mine:mem"
            case mu => k_extra "mine:units"
            k_steps
            rename Fr _ _ _ _ => F8; rename News _ _ _ _ => N8
            apply Stop.go
            refine' ne_dat N8 (IntsIn.dat ⟨_, _, ?m1, his3⟩) (fun p h => h) (nil_datI ?m2) (fun p h => h) (datI_ok8 _) (datI_ok8 _) ?mu (fun e => absurd (datI_iff.mp e) ht1) (fun _ => ?_)
            case m2 => exact List.mem_cons_self
            case m1 => k_extra "mine:mem"
            case mu => k_extra "mine:units"
            k_steps
            · rename _ ∈ ts2 => hm9
              rename ∀ _, _ ∈ ts2 → _ => ha9
              rename mx ≠ _ => hn9
              exact absurd (Int.le_antisymm (ha9 _ ht0.1) (ht0.2 _ hm9)) hn9
            · rename Fr _ _ _ _ => F9; rename News _ _ _ _ => N9
              refine JoinEnd.intro () F9 N9 ?_ trivial
              k_extra "mine:sub"
        intro h5 tk5 F7 N7
        (try dsimp only)
        k_steps
        rename Fr _ _ _ _ => F8; rename News _ _ _ _ => N8
        apply Stop.go
        refine join_name (Str.ofString "least") (fun k => IsLeast a'.n a'.sent k) F8 N8 ?_ ?_
        · k_steps
          rename Fr _ _ _ _ => F9; rename News _ _ _ _ => N9
          apply Stop.go
          refine' ne_dat N9 (IntsIn.dat ⟨_, _, ?m1, hys⟩) (fun p h => h) (nil_datI ?m2) (fun p h => h) (datI_ok8 _) (datI_ok8 _) ?mu (fun e => ?_) (fun e => ?_)
          case m2 => exact List.mem_cons_self
          case m1 => k_extra "mine:mem"
          case mu => k_extra "mine:units"
          · k_steps
            rename Fr _ _ _ _ => F10; rename News _ _ _ _ => N10
            refine JoinEnd.intro (_, _) F10 N10 ?_ (.inl ⟨datI_iff.mp e, hsi'.n.symm⟩)
            k_extra "mine:sub"
          · have hne9 : a'.sent ≠ [] := fun h => e (by rw [h])
            obtain ⟨k0, ks0, hk0⟩ := List.exists_cons_of_ne_nil hne9
            have hso := hsi'.sorted
            rw [hk0] at hys hso
            cases hys with | @cons _ t0 vs0 _ hr0 =>
            k_steps
            rename Fr _ _ _ _ => F10; rename News _ _ _ _ => N10
            refine JoinEnd.intro (_, _) F10 N10 ?_ (.inr ⟨by rw [hk0]; exact .head _, by rw [hk0]; intro b hb; rcases List.mem_cons.mp hb with rfl | hb; exact Int.le_refl _; exact (List.pairwise_cons.mp hso).1 b hb⟩)
            k_extra "mine:sub"
        intro k5 t5 h6 tk6 hk5 F9 N9
        (try dsimp only)
        k_steps
        have h4' := h3'.mono (J := add2 ++ (sndL w d sd ⟨T9, v0, v5, v6, v7, v8, v9, v10, v11, v12, v13, v14, v15, v16, la, nx, nt, ac, o⟩ ++ (((add ++ ((Dt, listOf [].toArray 0) :: (I ++ tl))) ++ own) ++ tl'))) (by k_extra "mine:sub")
        obtain ⟨vs4, nn4, hl4, hps4⟩ := id h4'
        dsimp only [List.cons_append, List.nil_append] at hl4
        have hvl4 : vs4.length = a'.ack.length := hps4.length
        have hakl := hsi'.ack_len fun v hv => by
          rcases List.mem_append.mp hv with hv | hv
          · exact hg v (List.mem_of_mem_take hv)
          · rw [List.mem_singleton.mp hv]; exact hgw
        refine Assign_Comp2 (F₀ := by k_asm) (by rfl) (by with_unfolding_all rfl) (by with_unfolding_all rfl) (by decide) (by rfl) (by decide) (by rfl) (by rfl) (by decide) (by rfl) (by rfl) (by rfl) (by rfl) ?_
        k_steps
        apply Stop.go
        rename Fr _ _ _ _ => F10; rename News _ _ _ _ => N10
        refine Src2.intro (by rfl) F10 N10 (fun p h => h) List.mem_cons_self (by k_extra "mine:size") ?_
        intro g8
        have hrv := hps4.reverse
        have hrl : vs4.reverse.length = a'.ack.reverse.length := hrv.length
        have hai := hsi'.ack_in fun v hv => by
          rcases List.mem_append.mp hv with hv | hv
          · exact hg v (List.mem_of_mem_take hv)
          · rw [List.mem_singleton.mp hv]; exact hgw
        refine rest2_ind (fun i ys => IntsAre ys (flat (a'.ack.reverse.take i)) ∧ ys.length ≤ 51 * i) ⟨.nil, Nat.le_refl _⟩ ?_ ?_
        · rintro i6 ys6 hi6 ⟨hys6, hyl6⟩ v6 hv6
          obtain ⟨p6, hp6, hpi6⟩ := hrv.get hv6
          have hpm : p6 ∈ a'.ack := List.mem_reverse.mp (List.mem_of_getElem? hp6)
          have hp61 := hsi'.can.mem p6 hpm
          have hp62 := hai p6.1 ⟨p6, hpm, Int.le_refl _, hp61⟩
          have hp63 := hai p6.2 (InR.mem hpm hp61)
          cases hpi6 with | @mk pa6 px6 py6 pt6 pu6 pn6 hm6 =>
          dsimp only at hp61 hp62 hp63
          refine ⟨pa6, pairObj px6 py6 pt6 pu6 pn6, .int px6 pt6, .int py6 pu6, pn6, px6, (py6 + 1 - px6).toNat, rfl, ?_, rfl, rfl, ?_, ?_, ?_⟩
          · dsimp only [List.cons_append, List.nil_append] at hm6; k_extra "mine:mem"
          · rw [PySem.sizeLine_eq]; simp only [List.length_reverse] at hi6; k_extra "mine:om"
          · intro I6 oI6 C6 oC6 D6 m6 h8 tk8 E8 hoC6 hm61 hm62 F11 N11 off6 ne6
            k_steps
            rename Fr _ _ _ _ => F12; rename News _ _ _ _ => N12
            rename IsRange _ _ _ _ _ _ _ _ => rg6
            exact RngEnd.intro F12 N12 (fun p h => h) rg6 (by k_extra "mine:om") (by k_extra "mine:om")
          · intro ws6 hws6
            rw [take_succ_snoc hp6, flat_snoc]
            refine ⟨IntsAre.append hys6 hws6, ?_⟩
            have := hws6.length
            rw [span_len] at this
            rw [List.length_append]; k_extra "mine:om"
        · rintro ys6 ⟨hys6, hyl6⟩ D6 h8 tk8 F11 N11 off6
          rw [hrl, List.take_length] at hys6
          k_steps
          apply Stop.go
          rename Fr _ _ _ _ => F12; rename News _ _ _ _ => N12
          rename IsRange _ _ _ _ _ _ _ _ => rg6
          have hk0 : 0 ≤ k5 ∧ k5 ≤ M := by
            rcases hk5 with ⟨_, h⟩ | ⟨h, _⟩
            · rw [h, hsi'.n]; k_extra "mine:om"
            · rw [hsi'.sent] at h
              have := rng_mem.mp (List.mem_filter.mp h).1
              k_extra "mine:om"
          refine CompSrcT.range (n := (M - k5).toNat) (by rfl) F12 N12 rg6 (range_sm (by k_extra "mine:om") (by k_extra "mine:om") (by k_extra "mine:om") (by k_extra "mine:om")) (by rw [range_sz]) (by rw [PySem.sizeLine_eq]; k_extra "mine:om") ?_
          intro g7
          refine restT (fun i ys tl => IntsAre ys ((span k5 i).filter fun x => decide (x ∈ ts2))) (fun _ => trivial) .nil ?_ ?_
          · rintro i5 ys tl5 hi9 hab hys v it oit C oC D m₂ h9 tk9 E9 hv hoC hx1 F2 N2 off ne
            obtain ⟨t9, rfl⟩ := hv
            dsimp only [List.cons_append, List.nil_append] at N2
            k_steps
            all_goals (rename Fr _ _ _ _ => F3; rename News _ _ _ _ => N3)
            · refine' TEnd.intro [] F3 N3 ?mS Ab.nil ?mR
              case mS => simp only [List.cons_append, List.nil_append]; k_extra "mine:sub"
              case mR => (try dsimp only); rw [filter_span_yes (f := fun x => decide (x ∈ ts2)) (decide_eq_true (by assumption))]; exact IntsAre.append hys (.cons _ _ .nil)
            · refine' TEnd.intro [] F3 N3 ?mS Ab.nil ?mR
              case mS => simp only [List.cons_append, List.nil_append]; k_extra "mine:sub"
              case mR => (try dsimp only); rw [filter_span_no (f := fun x => decide (x ∈ ts2)) (decide_eq_false (by assumption))]; exact hys
          · rintro ys7 tl7 hab7 hys7
            have hgd : ∀ v ∈ wss.take i ++ [ws], Good M v := fun v hv => by
              rcases List.mem_append.mp hv with hv | hv
              · exact hg v (List.mem_of_mem_take hv)
              · rw [List.mem_singleton.mp hv]; exact hgw
            have heq : flat a'.ack.reverse = (span k5 (M - k5).toNat).filter fun x => decide (x ∈ ts2) := by
              rw [hsi'.noted hgd hk5]
              apply List.filter_congr
              intro x _
              cases ht : told (wss.take i ++ [ws]) x <;> simp [htm', ht]
            rw [← heq] at hys7
            k_steps
            rename Fr _ _ _ _ => F13; rename News _ _ _ _ => N13
            apply Stop.go
            refine' ne_dat N13 (IntsIn.dat ⟨_, _, ?m1, hys6⟩) (fun p h => h) (IntsIn.dat ⟨_, _, ?m2, hys7⟩) (fun p h => h) (datI_ok8 _) (datI_ok8 _) ?mu (fun _ => ?_) (fun e => absurd rfl e)
            case m1 => k_extra "mine:mem"
            case m2 => k_extra "mine:mem"
            case mu => k_extra "mine:units"
            k_steps
            rename Fr _ _ _ _ => F14; rename News _ _ _ _ => N14
            refine' hQ9 _ _ (LEnd.intro (⟨⟨co2, cl2, ts2⟩, ⟨T9, v0, v5, v6, v7, v8, v9, v10, v11, v12, v13, v14, v15, v16, la, nx, nt, ac, o⟩⟩ : CutC) (add2 ++ tl') F14 N14 ?mK ?mN ?mA ?mS ⟨hco2, ⟨a', hok2.mono ?mJ, by rw [take_succ_snoc hp]; exact hsi'⟩, hti2.mono ?mI, by rw [take_succ_snoc hp]; exact htm', ?mL⟩)
            case mK => k_extra "mine:binds"
            case mN => simp only [List.cons_append, List.nil_append]; k_extra "mine:sub"
            case mS => k_extra "mine:same"
            case mJ => k_extra "mine:sub"
            case mI => k_extra "mine:sub"
            case mL => dsimp only; k_extra "mine:om"
            case mA =>
              refine Ab.app ?_ ?_
              · refine hab2.sub ?_
                simp only [List.cons_append, List.nil_append]; k_extra "mine:sub"
              · have h8 := hab8.same_o (o' := sndL w d sd ⟨T9, v0, v5, v6, v7, v8, v9, v10, v11, v12, v13, v14, v15, v16, la, nx, nt, ac, o⟩ ++ (L9 + 1, co2) :: (add ++ (Dt, listOf [].toArray 0) :: (I ++ tl) ++ own)) rfl
                refine h8.sub ?_
                simp only [List.cons_append, List.nil_append]; k_extra "mine:sub"
  case a7 =>
    rintro c add u h' tk hab hoo ⟨hco, _, _, _, _⟩ F1 N1
    (try dsimp only)
    refine letF F1 ?_
    clear F1
    intro mF6 F1
    k_steps
    rename Fr _ _ _ _ => F2; rename News _ _ _ _ => N2
    refine hret _ (I ++ []) _ _ F2 (cb_drop N2 ?_) ⟨[], rfl, rfl, Ab.nil⟩
    rw [List.append_nil]; k_extra "mine:sub"
end
section
theorem reset_26 : True := by
  w_top off
  exact trivial
local macro_rules | `(tactic| walk_at "CompSrc") => `(tactic| k_extra "mine:t1")
local macro_rules | `(tactic| walk_at "call builtin:list.pop") => `(tactic| k_extra "mine:t2")
local macro_rules | `(tactic| walk_at "call builtin:list.pop cons") => `(tactic| k_extra "mine:t3")
local macro_rules | `(tactic| walk_at "call type:range") => `(tactic| k_extra "mine:t4")
local macro_rules | `(tactic| walk_at "subscriptTail BinOp Subscript Add Subscript Slice ref ref") => `(tactic| k_extra "mine:t5")
local macro_rules | `(tactic| walk_at "subscriptTail Call Attribute cons nil Slice ref ref") => `(tactic| k_extra "mine:t6")
local macro_rules | `(tactic| walk_at "subscriptTail Name Slice ref ref") => `(tactic| k_extra "mine:tupfrom")
local macro_rules | `(tactic| k_ne) => `(tactic| (refine neN ?_; (try dsimp only); first | exact NeA.out (by with_reducible assumption) | exact NeA.sy (by with_reducible assumption) | (with_reducible refine Nat.ne_of_lt ?_; k_extra "mine:and") | (with_reducible refine Nat.ne_of_gt ?_; k_extra "mine:and") | omega))
local macro_rules | `(tactic| k_all) => `(tactic| k_extra "mine:nea")
example : True := by
  k_with "mine:t1" =>
    (with_reducible (refine Stop.out ?_))
  k_with "mine:t2" =>
    (with_reducible (refine Stop.out ?_))
  k_with "mine:t3" =>
    (with_reducible (refine Stop.out ?_))
  k_with "mine:use8" =>
    ((case mB7 => k_asm); (case mX7 => k_asm); (case mT7 => k_asm); (case mk7 => first | exact rfl | assumption); (case md7 => first | ktr_room | (dsimp only [ak']; ktr_room)); (case mu7 => k_extra "mine:un8"))
  k_with "mine:t4" =>
    ((rename Fr _ _ _ _ => Fz); (rename News _ _ _ _ => Nz); first | (with_unfolding_all refine range1_rows Fz Nz ?_; intro _ _ _ _ _ _ _ _ _) | (with_unfolding_all refine range2_rows Fz Nz ?_; intro _ _ _ _ _ _ _ _ _))
  k_with "mine:t5" =>
    (k_here; (refine kba_turn (value' := PySem.Expr.Name (PySem.Str.ofString "_") ⟨0, 0, 0, 0⟩) (fun _ => rfl) ?_); k_extra "mine:rev")
  k_with "mine:tupfrom" =>
    (k_here; (with_reducible show wpAny _ _ (subscriptTail _ (PySem.Expr.Slice (some _) none none _) (Value.ref _) (Value.ref _)) _ _ _); k_dflt (refine slice_tuple_from (a := 2) (by k_asm) (by k_asm) (by exact News.isTup (by k_asm) (by k_extra "mine:mem")) (by decide) (by exact Nat.le_of_ble_eq_true rfl) ?_ (by with_unfolding_all rfl) (by intro _; rfl) (by exact Nat.le_of_ble_eq_true rfl)); intro _ _ Nz; (try dsimp only [List.drop, List.toList_toArray] at Nz))
  k_with "mine:t6" =>
    (k_here; (refine kba_turn (value' := PySem.Expr.Name (PySem.Str.ofString "_") ⟨0, 0, 0, 0⟩) (fun _ => rfl) ?_); k_extra "mine:tupfrom")
  k_with "mine:clean" =>
    ((repeat (with_reducible rename Fr _ _ _ _ => zz9; clear zz9)); (repeat (with_reducible rename News _ _ _ _ => zz9; clear zz9)); (repeat (with_reducible rename (_ : Nat) < _ ∧ _ => zz9; clear zz9)); (repeat (with_reducible rename (∀ (p : Addr × Obj), p ∈ _ → p.1 < _) => zz9; clear zz9)))
  k_with "mine:nea1" =>
    ((try dsimp only); first | exact NeA.out (by with_reducible assumption) | exact NeA.sy (by with_reducible assumption) | k_ne)
  k_with "mine:nea" =>
    first | (with_reducible exact List.forall_mem_nil _) | ((with_reducible refine List.forall_mem_cons.mpr (And.intro ?_ ?_)); (· k_extra "mine:nea1"); (· k_extra "mine:nea")) | ((with_reducible refine List.forall_mem_append.mpr (And.intro ?_ ?_)); (· k_extra "mine:nea"); (· k_extra "mine:nea")) | (with_reducible (refine ne_own1 (by assumption) ?_; k_extra "mine:sub")) | (with_reducible (refine ne_own2 (by assumption) ?_; k_extra "mine:sub")) | (with_reducible (refine ne_own3 (by assumption) ?_; k_extra "mine:sub")) | (with_reducible (refine ne_own4 (by assumption) ?_; k_extra "mine:sub")) | k_extra "mine:ne"
  k_with "mine:neas" =>
    first | (with_reducible exact List.forall_mem_nil _) | ((with_reducible refine List.forall_mem_cons.mpr (And.intro ?_ ?_)); (· k_extra "mine:nea"); (· k_extra "mine:neas"))
  k_with "mine:clean0" =>
    ((repeat (with_reducible rename Ground .. => zz9; clear zz9)); (repeat (with_reducible rename Hook.says .. => zz9; clear zz9)); (repeat (with_reducible rename Flt.MathXP .. => zz9; clear zz9)); (repeat (with_reducible rename LooseAre .. => zz9; clear zz9)); (repeat (with_reducible rename Glob .. => zz9; clear zz9)); (repeat (with_reducible rename Tables .. => zz9; clear zz9)); (repeat (with_reducible rename TopE .. => zz9; clear zz9)); (repeat (with_reducible rename TopW .. => zz9; clear zz9)); (repeat (with_reducible rename BMod .. => zz9; clear zz9)); (repeat (with_reducible rename Heap.CodeRec .. => zz9; clear zz9)); (repeat (with_reducible rename Dflts .. => zz9; clear zz9)); (repeat (with_reducible rename ReadsAll .. => zz9; clear zz9)); (repeat (with_reducible rename ReadsAllW .. => zz9; clear zz9)); (repeat (with_reducible rename Well .. => zz9; clear zz9)); (repeat (with_reducible rename Reads .. => zz9; clear zz9)); (repeat (with_reducible rename CellsAre .. => zz9; clear zz9)); (repeat (with_reducible rename WShape.hasAll .. => zz9; clear zz9)))
  exact trivial
theorem top0 : PySem.Challenge.rw_sj0118_01.Holds := hd (by
  refine md 1 ?_
  intro md1
  refine md 4 ?_
  intro md4
  refine md 5 ?_
  intro md5
  refine md 6 ?_
  intro md6
  refine md 8 ?_
  intro md8
  refine md 9 ?_
  intro md9
  k_go0
  all_goals (try k_fold)
  k_extra "mine:lets"
  k_extra "mine:letf"
  rename World => w
  rename Shared => s1
  rename IntsAre _ _ => hI0
  k_steps
  rename IntsAre _ (List.take 40 _) => hI1
  rename Fr _ _ _ _ => F1; rename News _ _ _ _ => N1
  apply Stop.go
  (try k_fold)
  refine' Con.use (ltake_con ?h1 ?h2 ?h3 ?h4 ?h5 ?h6 ?h7) ?mB7 F1 ?mX7 N1 ?mT7 ?mk7 ?md7 ?mu7 ?_
  case h1 => k_extra "mine:ints"
  case h2 => rw [List.length_take]; k_extra "mine:om"
  case h3 => k_extra "mine:off"
  case h4 => decide
  case h5 => decide
  case h6 => decide
  case h7 => decide
  k_extra "mine:use8"
  rintro r7 n7 h7 tk7 F7 N7 ⟨v7, t7, kt7, k7, rfl, hv0, hv1, rfl⟩
  (try dsimp only)
  k_steps
  obtain ⟨M, hM⟩ : ∃ M : Nat, 3 + v7 = (M : Int) := ⟨(3 + v7).toNat, by k_extra "mine:om"⟩
  rename IntsAre _ (span _ _) => hI2
  rename Fr _ _ _ _ => F2; rename News _ _ _ _ => N2
  rename Obj.data _ = Data.cell (some (Value.ref _)) => dcm
  simp only [hM, Int.sub_zero, Int.toNat_natCast] at F2 N2 hI2 ⊢
  k_extra "mine:clean0"
  refine nm10 N2 ?_
  rintro lf tp wd cm bx xl sl rfl rfl rfl rfl rfl rfl rfl q8 q9 q10 vx nx rfl rfl rfl rfl rfl
  refine letV (s1.heap.objs.size + 1) ?_
  intro e1
  refine letV (s1.heap.objs.size + 1 + 1) ?_
  intro e2
  refine letV (s1.heap.objs.size + 1 + 1 + 1) ?_
  intro e3
  refine letF F2 ?_
  clear F2
  intro mF90 F2
  apply Stop.go
  (try k_fold)
  refine For_turns F2 ?_
  k_steps
  apply Stop.go
  (try k_fold)
  refine' Con.use (ltake_con (bx := bx) (xs := xl) (I := [(lf, _), (wd, _), (cm, _), (xl, listOf vx.toArray nx), (e3, q8), (e2, q9), (e1, q10)]) ?h1 ?h2 ?h3 ?h4 ?h5 ?h6 ?h7) ?mB7 F2 ?mX7 (cb_drop N2 ?mS) ?mT7 ?mk7 ?md7 ?mu7 ?_
  case mS => k_extra "mine:sub"
  case h1 => k_extra "mine:ints"
  case h2 => rw [List.length_take]; k_extra "mine:om"
  case h3 => k_extra "mine:off"
  case h4 => decide
  case h5 => decide
  case h6 => k_extra "mine:om"
  case h7 => k_extra "mine:om"
  k_extra "mine:use8"
  rintro r8 n8 h8 tk8 F8 N8 ⟨v8, t8, kt8, k8, rfl, hv2, hv3, rfl⟩
  (try dsimp only)
  k_steps
  rename IsRange _ _ _ _ _ _ _ _ => rg9
  rename Fr _ _ _ _ => F3; rename News _ _ _ _ => N3
  rw [show (2 : Int) + v8 = ((2 + v8).toNat : Int) by k_extra "mine:om"] at rg9
  apply Stop.go
  have hsz9 := range_sz 0 ((2 + v8).toNat : Int)
  rw [Int.sub_zero, Int.toNat_natCast] at hsz9
  refine' floop_range (σ := L1) (n := (2 + v8).toNat) (fun c => [(lf, listOf c.lv.toArray c.ln), (cm, listOf c.cv.toArray c.cn), (bx, listOf [.ref xl, .int c.k c.kt].toArray c.n)]) (fun c => []) ["turn"]
    (fun i c _ => IntsAre c.lv c.ls ∧ IntsAre c.cv c.cs ∧ Draw M c.cs c.ls ∧ c.cs.length = i ∧ c.k = 2 + (i : Int)) [lf, cm, bx] ⟨0 + 1 + 1, _, _, _, rng M, _, [], [], _⟩ [(wd, listOf [].toArray 0), (xl, listOf vx.toArray nx), (e3, q8), (e2, q9), (e1, q10)] rfl rg9 ?a0 hsz9 ?aF ?aN ?a1 ?a2 ?a3 ?a4 ?a5 ?a6 ?a7
  case aF => exact F3
  case aN => exact N3
  case a0 => exact range_sm (by k_extra "mine:om") (by k_extra "mine:om") (by k_extra "mine:om") (by k_extra "mine:om")
  case a1 => k_extra "mine:sub"
  case a2 => intro c; rfl
  case a3 => k_extra "mine:off"
  case a4 => k_extra "mine:binds"
  case a5 => exact ⟨by rw [rng_span]; exact hI2, .nil, Draw.start M, rfl, rfl⟩
  case a6 =>
    rintro i t c add u h' tk own Q9 hQ9 hi hab hoo hoo2 ⟨hcl, hcc, hdr, hcn, hck⟩ F1 N1
    obtain ⟨k9, kt9, n9, lv9, ls9, ln9, cv9, cs9, cn9⟩ := c
    dsimp only at hcl hcc hdr hcn hck N1 hab
    have hlen := hdr.len
    have hlvl : lv9.length = ls9.length := hcl.length
    have hcvl : cv9.length = cs9.length := hcc.length
    dsimp only [List.cons_append, List.nil_append] at N1
    (try dsimp only)
    refine letF F1 ?_
    clear F1
    intro mF15 F1
    k_steps
    rename Fr _ _ _ _ => F2; rename News _ _ _ _ => N2
    apply Stop.go
    (try k_fold)
    refine' Con.use (ltake_con (bx := bx) (xs := xl) (I := (lf, _) :: (cm, _) :: (add ++ [(wd, listOf [].toArray 0), (xl, listOf vx.toArray nx), (e3, q8), (e2, q9), (e1, q10)] ++ own)) ⟨_, _, ?h1, hI1⟩ ?h2 ?h3 ?h4 ?h5 ?h6 ?h7) ?mB7 F2 ?mX7 (cb_drop N2 ?mS) ?mT7 ?mk7 ?md7 ?mu7 ?_
    case mS => (try simp only [List.cons_append, List.nil_append]); k_extra "mine:sub"
    case h1 => k_extra "mine:mem"
    case h2 => rw [List.length_take]; k_extra "mine:om"
    case h3 => k_extra "mine:off"
    case h4 => k_extra "mine:om"
    case h5 => k_extra "mine:om"
    case h6 => k_extra "mine:om"
    case h7 => k_extra "mine:om"
    k_extra "mine:use8"
    rintro r8 n8 h8 tk8 F8 N8 ⟨v9, t9, kt9', k9', rfl, hv4, hv5, rfl⟩
    (try dsimp only [List.cons_append, List.nil_append] at N8)
    (try dsimp only)
    k_steps
    rename Fr _ _ _ _ => F3; rename News _ _ _ _ => N3
    apply Stop.go
    refine' popAt_L F3 N3 hcl hv4 (by k_extra "mine:om") (by k_extra "mine:om") ?U ?_
    case U => k_upd
    rintro h9' x9 t9' hx9 hcl9 F9 N9
    (try dsimp only at N9)
    k_steps
    rename Fr _ _ _ _ => F4; rename News _ _ _ _ => N4
    refine' hQ9 _ _ (LEnd.intro ⟨k9 + 1, _, _, lv9.eraseIdx _, ls9.eraseIdx _, _, cv9 ++ [.int x9 t9'], cs9 ++ [x9], _⟩ [] F4 N4 ?mK ?mN Ab.nil ?mS2 ⟨hcl9, IntsAre.append hcc (.cons x9 t9' .nil), hdr.step hx9, ?mL, ?mO⟩)
    case mK => k_extra "mine:binds"
    case mN => (try simp only [List.cons_append, List.nil_append]); k_extra "mine:sub"
    case mS2 => k_extra "mine:same"
    case mL => dsimp only; rw [List.length_append, hcn]; rfl
    case mO => dsimp only; k_extra "mine:om"
  case a7 =>
    rintro c add u h' tk hab hoo ⟨hcl, hcc, hdr, hcn, hck1⟩ F1 N1
    obtain ⟨k9, kt9, n9, lv9, ls9, ln9, cv9, cs9, cn9⟩ := c
    dsimp only at hcl hcc hdr hcn hck1 N1 hab
    dsimp only [List.cons_append, List.nil_append] at N1
    have hlen := hdr.len
    have hlvl : lv9.length = ls9.length := hcl.length
    have hcvl : cv9.length = cs9.length := hcc.length
    have hM3 : 3 ≤ M := by k_extra "mine:om"
    have hM8 : M ≤ 8 := by k_extra "mine:om"
    have hcs2 : 2 ≤ cs9.length := by k_extra "mine:om"
    have hcsM : cs9.length ≤ M := by k_extra "mine:om"
    have hcv60 : cv9.length ≤ 60 := by k_extra "mine:om"
    have hlv60 : lv9.length ≤ 60 := by k_extra "mine:om"
    have hka : 0 ≤ k9 := by k_extra "mine:om"
    have hkb : k9 ≤ 20 := by k_extra "mine:om"
    clear hv0 hv1 hM hv2 hv3 hcn hck1 hlen hlvl
    (try dsimp only)
    refine letF F1 ?_
    clear F1
    intro mF16 F1
    k_steps
    rename Fr _ _ _ _ => F2; rename News _ _ _ _ => N2
    have kF := Hid.mk F2
    have kN := Hid.mk (cb_drop (news := (lf, listOf lv9.toArray ln9) :: (cm, listOf cv9.toArray cn9) :: (bx, listOf [.ref xl, .int k9 kt9].toArray n9) :: [(wd, listOf [].toArray 0), (xl, listOf vx.toArray nx), (e3, q8), (e2, q9), (e1, q10)]) N2 (by k_extra "mine:sub"))
    have c0 : e1 < e2 := Nat.lt_succ_self _
    have c1 : e2 < e3 := Nat.lt_succ_self _
    have c2 : e3 < xl := (by k_extra "mine:om" : s1.heap.objs.size + 1 + 1 + 1 < xl)
    have c3 : @LT.lt Nat _ xl bx := by k_extra "mine:om"
    have c4 : @LT.lt Nat _ bx cm := by k_extra "mine:om"
    have c5 : @LT.lt Nat _ cm wd := by k_extra "mine:om"
    have c6 : @LT.lt Nat _ wd lf := by k_extra "mine:om"
    refine ne_chain c0 c1 c2 c3 c4 c5 c6 ?_
    clear c0 c1 c2 c3 c4 c5 c6
    intro g1 g2 g3 g4 g5 g6 g21 g22 g23 g24 g25 g26 g27 g28 g29 g30 g31 g32 g33 g34 g35 g36 g37 g38 g39
    k_extra "mine:clean"
    obtain ⟨F2⟩ := kF
    refine letF F2 ?_
    clear F2
    intro mF91 F2
    obtain ⟨N2⟩ := kN
    apply Stop.go
    (try k_fold)
    refine' Con.use (Con.rcv2 (space_con (I := (lf, listOf lv9.toArray ln9) :: (cm, listOf cv9.toArray cn9) :: (bx, listOf [.ref xl, .int k9 kt9].toArray n9) :: [(wd, listOf [].toArray 0), (xl, listOf vx.toArray nx), (e3, q8), (e2, q9), (e1, q10)]))) ?mB7 F2 ?mX7 (cb_drop N2 ?mS) ?mT7 ?mk7 ?md7 ?mu7 ?_
    case mS => k_extra "mine:sub"
    k_extra "mine:use8"
    rintro r1 n1 h1 tk1 F3 N3 ⟨x1, d1, ec1, c1, tl1, rfl, rfl, hab1, hxm1, hof1, hde1, hok1⟩
    (try dsimp only)
    k_steps
    rename Fr _ _ _ _ => F4; rename News _ _ _ _ => N4
    apply Stop.go
    (try k_fold)
    refine' Con.use (Con.rcv2 (space_con (I := rcvL w d1 ec1 c1 ++ (((lf, listOf lv9.toArray ln9) :: (cm, listOf cv9.toArray cn9) :: (bx, listOf [.ref xl, .int k9 kt9].toArray n9) :: [(wd, listOf [].toArray 0), (xl, listOf vx.toArray nx), (e3, q8), (e2, q9), (e1, q10)]) ++ tl1)))) ?mB7 F4 ?mX7 (cb_drop N4 ?mS) ?mT7 ?mk7 ?md7 ?mu7 ?_
    case mS => k_extra "mine:sub"
    k_extra "mine:use8"
    rintro r2 n2 h2 tk2 F5 N5 ⟨x2, d2, ec2, c2, tl2, rfl, rfl, hab2, hxm2, hof2, hde2, hok2⟩
    (try dsimp only)
    have hofA := hof1
    have hofB := hof2
    dsimp only [rcvL, List.cons_append, List.nil_append] at hofA hofB
    refine nea8 hofA ?_
    intro f13 f14 f17 f18 f21 f22 f25 f26 f61 f62 f1 f2 f5 f6 f9 f10
    refine nea2 hofB ?_
    intro f29 f30 f31 f32 hofC
    refine nea8 hofC ?_
    intro f15 f16 f19 f20 f23 f24 f27 f28 f63 f64 f3 f4 f7 f8 f11 f12
    clear hofA hofB hofC
    have hT1 : OwnOff (tl1 ++ tl2) [d1, ec1, bx] := off3 (fun p hp => (List.mem_append.mp hp).elim (fun h => hof1 p (List.mem_append_right _ h) d1 (.head _)) fun h => ab_off (b := d1) hab2 (by k_extra "mine:mem") p (List.mem_append_right _ h)) (fun p hp => (List.mem_append.mp hp).elim (fun h => hof1 p (List.mem_append_right _ h) ec1 (.tail _ (.head _))) fun h => ab_off (b := ec1) hab2 (by k_extra "mine:mem") p (List.mem_append_right _ h)) (ab_off2 (b := bx) hab1 hab2 (by k_extra "mine:mem") (by k_extra "mine:mem"))
    have hT2 : OwnOff (tl1 ++ tl2) [wd, lf, cm] := off3 (ab_off2 (b := wd) hab1 hab2 (by k_extra "mine:mem") (by k_extra "mine:mem")) (ab_off2 (b := lf) hab1 hab2 (by k_extra "mine:mem") (by k_extra "mine:mem")) (ab_off2 (b := cm) hab1 hab2 (by k_extra "mine:mem") (by k_extra "mine:mem"))
    have hT3 : OwnOff (tl1 ++ tl2) [e3, e2, e1] := off3 (ab_off2 (b := e3) hab1 hab2 (by k_extra "mine:mem") (by k_extra "mine:mem")) (ab_off2 (b := e2) hab1 hab2 (by k_extra "mine:mem") (by k_extra "mine:mem")) (ab_off2 (b := e1) hab1 hab2 (by k_extra "mine:mem") (by k_extra "mine:mem"))
    have hT4 : OwnOff (tl1 ++ tl2) [d2, ec2, xl] := off3 (fun p hp => hof2 p (by rcases List.mem_append.mp hp with h | h; exact List.mem_append_left _ (List.mem_append_right _ (List.mem_append_right _ h)); exact List.mem_append_right _ h) d2 (.head _)) (fun p hp => hof2 p (by rcases List.mem_append.mp hp with h | h; exact List.mem_append_left _ (List.mem_append_right _ (List.mem_append_right _ h)); exact List.mem_append_right _ h) ec2 (.tail _ (.head _))) (ab_off2 (b := xl) hab1 hab2 (by k_extra "mine:mem") (by k_extra "mine:mem"))
    have hx1 : (x1, instObj 245 d1) ∈ tl1 ++ tl2 := List.mem_append_left _ hxm1
    have hx2 : (x2, instObj 245 d2) ∈ tl1 ++ tl2 := List.mem_append_right _ hxm2
    have hk1 : RcvOK w (tl1 ++ tl2) c1 _ := hok1.mono fun p hp => List.mem_append_left _ hp
    have hk2 : RcvOK w (tl1 ++ tl2) c2 _ := hok2.mono fun p hp => List.mem_append_right _ hp
    have N6 := cb_drop (news := rcvL w d2 ec2 c2 ++ (rcvL w d1 ec1 c1 ++ ([(lf, listOf lv9.toArray ln9), (cm, listOf cv9.toArray cn9), (bx, listOf [.ref xl, .int k9 kt9].toArray n9), (wd, listOf [].toArray 0), (xl, listOf vx.toArray nx), (e3, q8), (e2, q9), (e1, q10)] ++ (tl1 ++ tl2)))) N5 (by k_extra "mine:sub")
    clear hab1 hab2 hof1 hof2 hok1 hok2 hxm1 hxm2 N5
    generalize tl1 ++ tl2 = TL at *
    dsimp only [rcvL, List.cons_append, List.nil_append] at N6
    k_steps
    rename Fr _ _ _ _ => F6; rename News _ _ _ _ => N7
    apply Stop.go
    (try k_fold)
    refine For_turns F6 ?_
    k_steps
    rename IsRange _ _ _ _ _ _ _ _ => rg2
    rename Fr _ _ _ _ => F8; rename News _ _ _ _ => N8
    rename Obj.data _ = Data.cell (some (Value.ref x2)) => dc2
    rename Obj.data _ = Data.cell (some (Value.ref x1)) => dc1
    refine nmo dc1 ?_
    rintro p1 rfl
    refine nmo dc2 ?_
    rintro p2 rfl
    have kF := Hid.mk F8
    have kN := Hid.mk (cb_drop (news := (rcvL w d1 ec1 c1 ++ ((bx, listOf [.ref xl, .int k9 kt9].toArray n9) :: (wd, listOf [].toArray 0) :: rcvL w d2 ec2 c2)) ++ ([(lf, listOf lv9.toArray ln9), (cm, listOf cv9.toArray cn9), (xl, listOf vx.toArray nx), (e3, p2), (e2, p1), (e1, q10)] ++ TL)) N8 (by (try simp only [rcvL, List.cons_append, List.nil_append]); k_extra "mine:sub"))
    k_extra "mine:clean"
    obtain ⟨F8⟩ := kF
    refine letF F8 ?_
    clear F8
    intro mF92 F8
    obtain ⟨N8⟩ := kN
    apply Stop.go
    have hsz2 := range_sz 0 (cv9.length : Int)
    rw [Int.sub_zero, Int.toNat_natCast] at hsz2
    refine' floop_range (σ := L2) (n := cv9.length) (fun c => rcvL w d1 ec1 c.c1 ++ ((bx, listOf [.ref xl, .int c.k c.kt].toArray c.n) :: (wd, listOf c.wv.toArray c.wn) :: rcvL w d2 ec2 c2)) (fun c => []) ["turn", "number", "room", "whole", "told", "more"]
      (fun i c J => RcvOK w J c.c1 (rcvFold (cs9.take i)) ∧ c.k = k9 + (i : Int) ∧ ∃ wss, WdsIn J c.wv wss ∧ wss.length = i ∧ ∀ v ∈ wss, Good M v ∧ ∀ x, hasNum v x = true → x ∈ cs9) [d1, ec1, bx, wd, d2, ec2] ⟨c1, k9, kt9, n9, [], 0⟩ ([(lf, listOf lv9.toArray ln9), (cm, listOf cv9.toArray cn9), (xl, listOf vx.toArray nx), (e3, p2), (e2, p1), (e1, q10)] ++ TL) rfl rg2 ?a0 hsz2 ?aF ?aN ?a1 ?a2 ?a3 ?a4 ?a5 ?a6 ?a7
    case aF => exact F8
    case aN => exact N8
    case a0 => exact range_sm (by k_extra "mine:om") (by k_extra "mine:om") (by k_extra "mine:om") (by k_extra "mine:om")
    case a1 => exact fun p h => h
    case a2 => intro c; rfl
    case a3 =>
      simp only [rcvL, List.cons_append, List.nil_append]
      refine off_of ?_
      k_extra "mine:neas"
    case a4 => k_extra "mine:binds"
    case a5 =>
      refine ⟨?_, ?_, [], WdsIn.nil, rfl, fun v hv => nomatch hv⟩
      · show RcvOK w _ c1 ⟨[], none, 0, 0, 0⟩
        refine hk1.mono ?_
        exact fun p h => List.mem_append_right _ h
      · show k9 = k9 + 0
        exact (Int.add_zero k9).symm
    case a6 =>
      rintro i t c add u h' tk own Q9 hQ9 hi hab hoo hoo2 ⟨hok, hck, wss, hwd, hwl, hwg⟩ F1 N1
      obtain ⟨c1, k8, kt8, n8, wv8, wn8⟩ := c
      dsimp only at hok hck hwd N1 hab
      have hi' : i < cs9.length := by k_extra "mine:om"
      have hwvl : wv8.length = i := by rw [hwd.length, hwl]
      obtain ⟨x9, hx9⟩ : ∃ x9, cs9[i]? = some x9 := ⟨_, List.getElem?_eq_getElem hi'⟩
      obtain ⟨t9, ht9⟩ := hcc.get i x9 hx9
      have hit : (0 + (i : Int)).toNat = i := by k_extra "mine:om"
      have hv9 : cv9[(0 + (i : Int)).toNat]? = some (.int x9 t9) := by rw [hit]; exact ht9
      have hxb := hdr.cs_in x9 (List.mem_of_getElem? hx9)
      have hx0 : 0 ≤ x9 := hxb.1
      have hgi : Good M (rcvFold (cs9.take i)).rcv := rcvFold_good fun x hx => hdr.cs_in x (List.mem_of_mem_take hx)
      clear hit
      have hgl : (rcvFold (cs9.take i)).rcv.length ≤ 9 := Nat.le_trans hgi.len (by k_extra "mine:om")
      have hwv60 : wv8.length ≤ 60 := by k_extra "mine:om"
      have hk8a : 0 ≤ k8 := by k_extra "mine:om"
      have hk8b : k8 ≤ 40 := by k_extra "mine:om"
      have hckH := Hid.mk hck
      clear hck
      have hooY : OwnOff ((add ++ ([(lf, listOf lv9.toArray ln9), (cm, listOf cv9.toArray cn9), (xl, listOf vx.toArray nx), (e3, p2), (e2, p1), (e1, q10)] ++ TL)) ++ (rcvL w d2 ec2 c2 ++ own)) [d1, ec1, bx, wd] := by
        refine OwnOff.app (fun p hp b hb => hoo p (List.mem_append_left _ hp) b ?_) (OwnOff.app ?_ (fun p hp b hb => hoo p (List.mem_append_right _ hp) b ?_))
        · simp only [List.mem_cons, List.not_mem_nil, or_false] at hb ⊢; rcases hb with h | h | h | h <;> simp [h]
        · simp only [rcvL]; refine off_of ?_; k_extra "mine:neas"
        · simp only [List.mem_cons, List.not_mem_nil, or_false] at hb ⊢; rcases hb with h | h | h | h <;> simp [h]
      have hooY2 : OwnOff (rcvL w d2 ec2 c2 ++ own) ((add ++ ([(lf, listOf lv9.toArray ln9), (cm, listOf cv9.toArray cn9), (xl, listOf vx.toArray nx), (e3, p2), (e2, p1), (e1, q10)] ++ TL)).map (·.1)) := by
        refine OwnOff.app ?_ hoo2
        intro p hp b hb
        obtain ⟨q, hq, rfl⟩ := List.mem_map.mp hb
        simp only [rcvL, List.mem_cons, List.not_mem_nil, or_false] at hp
        rcases hp with rfl | rfl
        · exact Ne.symm (hoo q (List.mem_append_left _ hq) d2 (.tail _ (.tail _ (.tail _ (.tail _ (.head _))))))
        · exact Ne.symm (hoo q (List.mem_append_left _ hq) ec2 (.tail _ (.tail _ (.tail _ (.tail _ (.tail _ (.head _)))))))
      have hxR : (x1, instObj 245 d1) ∈ (add ++ ([(lf, listOf lv9.toArray ln9), (cm, listOf cv9.toArray cn9), (xl, listOf vx.toArray nx), (e3, p2), (e2, p1), (e1, q10)] ++ TL)) := by k_extra "mine:mem"
      have mcm : (cm, listOf cv9.toArray cn9) ∈ (add ++ ([(lf, listOf lv9.toArray ln9), (cm, listOf cv9.toArray cn9), (xl, listOf vx.toArray nx), (e3, p2), (e2, p1), (e1, q10)] ++ TL)) := by k_extra "mine:mem"
      have mxl : (xl, listOf vx.toArray nx) ∈ (add ++ ([(lf, listOf lv9.toArray ln9), (cm, listOf cv9.toArray cn9), (xl, listOf vx.toArray nx), (e3, p2), (e2, p1), (e1, q10)] ++ TL)) := by k_extra "mine:mem"
      have mp1 : (e2, p1) ∈ (add ++ ([(lf, listOf lv9.toArray ln9), (cm, listOf cv9.toArray cn9), (xl, listOf vx.toArray nx), (e3, p2), (e2, p1), (e1, q10)] ++ TL)) := by k_extra "mine:mem"
      have mq1 : (e1, q10) ∈ (add ++ ([(lf, listOf lv9.toArray ln9), (cm, listOf cv9.toArray cn9), (xl, listOf vx.toArray nx), (e3, p2), (e2, p1), (e1, q10)] ++ TL)) := by k_extra "mine:mem"
      have N1 := cb_drop (news := rcvL w d1 ec1 c1 ++ ((bx, listOf [.ref xl, .int k8 kt8].toArray n8) :: (wd, listOf wv8.toArray wn8) :: ((add ++ ([(lf, listOf lv9.toArray ln9), (cm, listOf cv9.toArray cn9), (xl, listOf vx.toArray nx), (e3, p2), (e2, p1), (e1, q10)] ++ TL)) ++ (rcvL w d2 ec2 c2 ++ own)))) N1 (by (try simp only [rcvL, List.cons_append, List.nil_append]); k_extra "mine:sub")
      clear hab hoo hoo2
      generalize (add ++ ([(lf, listOf lv9.toArray ln9), (cm, listOf cv9.toArray cn9), (xl, listOf vx.toArray nx), (e3, p2), (e2, p1), (e1, q10)] ++ TL)) = R9 at hok hwd N1 hQ9 hxR mcm mxl mp1 mq1 hooY hooY2
      generalize hO9 : (rcvL w d2 ec2 c2 ++ own) = O9 at N1 hooY hooY2
      dsimp only [rcvL, List.cons_append, List.nil_append] at N1
      (try dsimp only)
      refine letF F1 ?_
      clear F1
      intro mF17 F1
      k_steps
      rename Fr _ _ _ _ => F2; rename News _ _ _ _ => N2
      apply Stop.go
      (try k_fold)
      refine' Con.use (ltake_con (bx := bx) (xs := xl) (I := rcvL w d1 ec1 c1 ++ ((wd, _) :: (R9 ++ O9))) ⟨_, _, ?h1, hI1⟩ ?h2 ?h3 ?h4 ?h5 ?h6 ?h7) ?mB7 F2 ?mX7 (cb_drop N2 ?mS) ?mT7 ?mk7 ?md7 ?mu7 ?_
      case mS => (try simp only [rcvL, List.cons_append, List.nil_append]); k_extra "mine:sub"
      case h1 => k_extra "mine:mem"
      case h2 => rw [List.length_take]; k_extra "mine:om"
      case h3 => simp only [rcvL, List.cons_append, List.nil_append]; refine off_of ?_; k_extra "mine:neas"
      case h4 => k_extra "mine:om"
      case h5 => k_extra "mine:om"
      case h6 => decide
      case h7 => decide
      k_extra "mine:use8"
      rintro r3 n3 h3 tk3 F3 N3 ⟨v9, t9', kt9', k9', rfl, hv4, hv5, rfl⟩
      (try dsimp only)
      dsimp only [rcvL, List.cons_append, List.nil_append] at N3
      k_steps
      rename Fr _ _ _ _ => F4; rename News _ _ _ _ => N4
      apply Stop.go
      have hY := offY (o := listOf [.ref xl, .int (k8 + 1) kt9'].toArray k9') (o' := listOf wv8.toArray wn8) hooY (by assumption) (by assumption) (by assumption) (by assumption)
      have hXR := off_x3 (o := listOf [.ref xl, .int (k8 + 1) kt9'].toArray k9') (o' := listOf wv8.toArray wn8) hooY hooY2
      (try k_fold)
      refine' Con.use (known_con (c := c1) (I := ((bx, listOf [.ref xl, .int (k8 + 1) kt9'].toArray k9') :: (wd, listOf wv8.toArray wn8) :: O9) ++ R9) (hok.mono fun p h => List.mem_append_right _ h) (List.mem_append_right _ hxR) hY hde1 hx0 (by k_extra "mine:om")) ?mB7 F4 ?mX7 (cb_drop N4 ?mS) ?mT7 ?mk7 ?md7 ?mu7 ?_
      case mS => (try simp only [rcvL, List.cons_append, List.nil_append]); k_extra "mine:sub"
      k_extra "mine:use8"
      rintro r4 n4 h4 tk4 F5 N5 ⟨tlk, hr4, rfl, abk⟩
      have hnk : hasNum (rcvFold (cs9.take i)).rcv x9 = false := by rw [hasNum_fold]; exact decide_eq_false (nodup_fresh hdr.cs_nodup hx9)
      rw [hnk] at hr4
      subst hr4
      have N5 := cb_drop (news := rcvL w d1 ec1 c1 ++ (((bx, listOf [.ref xl, .int (k8 + 1) kt9'].toArray k9') :: (wd, listOf wv8.toArray wn8) :: O9) ++ R9)) N5 (by k_extra "mine:sub")
      clear abk N4 F4
      (try dsimp only)
      dsimp only [rcvL, List.cons_append, List.nil_append] at N5
      k_steps
      rename Fr _ _ _ _ => F6; rename News _ _ _ _ => N6
      apply Stop.go
      (try k_fold)
      refine' Con.use (recv_con (Y9 := ((bx, listOf [.ref xl, .int (k8 + 1) kt9'].toArray k9') :: (wd, listOf wv8.toArray wn8) :: O9)) (I := R9) hok hxR hY hXR hde1 (by k_extra "mine:om") (Int.fmod_eq_emod_of_nonneg x9 (by decide)).symm) ?mB7 F6 ?mX7 (cb_drop N6 ?mS) ?mT7 ?mk7 ?md7 ?mu7 ?_
      case mS => (try simp only [rcvL, List.cons_append, List.nil_append]); k_extra "mine:sub"
      k_extra "mine:use8"
      rintro r5 n5 h5 tk5 F7 N7 ⟨c1', tlr, rfl, abr, hok'⟩
      rw [← rcvFold_take hx9] at hok'
      have hgi' : Good M (rcvFold (cs9.take (i + 1))).rcv := rcvFold_good fun x hx => hdr.cs_in x (List.mem_of_mem_take hx)
      have hgl' : (rcvFold (cs9.take (i + 1))).rcv.length ≤ 9 := Nat.le_trans hgi'.len (by k_extra "mine:om")
      have hti : 0 < (cs9.take (i + 1)).length := by rw [List.length_take]; k_extra "mine:om"
      obtain ⟨lsm, hlsm, _, _⟩ := rcvFold_ls_ne hti
      have hY2 := offY2 hY (rcv_off abr)
      (try dsimp only)
      have N7b := cb_drop N7 (fun p h => h)
      dsimp only [rcvL, List.cons_append, List.nil_append] at N7b
      k_steps
      rename Fr _ _ _ _ => F8; rename News _ _ _ _ => N8
      apply Stop.go
      (try k_fold)
      refine' Con.use (frame_con (Y9 := ((bx, listOf [.ref xl, .int (k8 + 1) kt9'].toArray k9') :: (wd, listOf wv8.toArray wn8) :: O9)) (I := R9 ++ tlr) (c := c1') hok' (List.mem_append_left _ hxR) hY2 hde1 (by k_extra "mine:om") (rcvFold_ne hti) hlsm) ?mB7 F8 ?mX7 (cb_drop N8 ?mS) ?mT7 ?mk7 ?md7 ?mu7 ?_
      case mS => (try simp only [rcvL, List.cons_append, List.nil_append]); k_extra "mine:sub"
      k_extra "mine:use8"
      rintro r6 n6 h6 tk6 F9 N9 ⟨tp6, dl6, td6, rl6, mv6, ts6, nn6, tlf, rfl, rfl, abf, htp, hrl, _⟩
      (try dsimp only)
      dsimp only [rcvL, List.cons_append, List.nil_append] at N9
      k_steps
      obtain ⟨⟨lo, hi9⟩, ps9, hps9⟩ : ∃ p ps, (rcvFold (cs9.take (i + 1))).rcv = p :: ps := by
        cases hr : (rcvFold (cs9.take (i + 1))).rcv with
        | nil => have := rcvFold_ne hti; rw [hr] at this; simp at this
        | cons p ps => exact ⟨p, ps, rfl⟩
      have hgw := hgi'
      rw [hps9] at hgw hrl hgl'
      obtain ⟨b1, b2, b3, b4, b5⟩ := Good.fit hgw (by k_extra "mine:om")
      have hgl9 : ps9.length ≤ 8 := by rw [List.length_cons] at hgl'; k_extra "mine:om"
      have hhd := rcvFold_hd hps9
      rename Fr _ _ _ _ => F10; rename News _ _ _ _ => N10
      apply Stop.go
      (try k_fold)
      refine' Con.use (fit_con (M := rcvL w d1 ec1 c1' ++ ((bx, listOf [.ref xl, .int (k8 + 1) kt9'].toArray k9') :: (wd, listOf wv8.toArray wn8) :: O9)) (I := ((R9 ++ tlr) ++ tlf)) hrl (by k_extra "mine:om") b1 b2 b3 b4 b5) ?mB7 F10 ?mX7 (cb_drop N10 ?mS) ?mT7 ?mk7 ?md7 ?mu7 ?_
      case mS => (try simp only [rcvL, List.cons_append, List.nil_append]); k_extra "mine:sub"
      k_extra "mine:use8"
      rintro r7 n7 h7 tk7 F11 N11 ⟨ta, tla, rfl, rfl, aba, hra⟩
      (try dsimp only)
      have N11b := cb_drop N11 (fun p h => h)
      dsimp only [rcvL, List.cons_append, List.nil_append] at N11b
      k_steps
      rename Fr _ _ _ _ => F12; rename News _ _ _ _ => N12
      apply Stop.go
      (try k_fold)
      refine' Con.use (fit_con (M := rcvL w d1 ec1 c1' ++ ((bx, listOf [.ref xl, .int (k8 + 1) kt9'].toArray k9') :: (wd, listOf wv8.toArray wn8) :: O9)) (I := (((R9 ++ tlr) ++ tlf) ++ tla)) (hrl.mono fun p h => List.mem_append_left _ h) (by k_extra "mine:om") b1 b2 b3 b4 b5) ?mB7 F12 ?mX7 (cb_drop N12 ?mS) ?mT7 ?mk7 ?md7 ?mu7 ?_
      case mS => (try simp only [rcvL, List.cons_append, List.nil_append]); k_extra "mine:sub"
      k_extra "mine:use8"
      rintro r8 n8 h8 tk8 F13 N13 ⟨tb, tlb, rfl, rfl, abb, hrb⟩
      have hTT := ab_four abr abf aba abb
      have hok2 := hok'.mono (four1 (t2 := tlf) (t3 := tla) (t4 := tlb))
      have hrl2 := hrl.mono (four2 (t3 := tla) (t4 := tlb))
      have hra2 := hra.mono (four3 (t4 := tlb))
      have hrb2 := hrb.mono four4
      have N14 := News.congr N13 (n' := rcvL w d1 ec1 c1' ++ (((bx, listOf [.ref xl, .int (k8 + 1) kt9'].toArray k9') :: (wd, listOf wv8.toArray wn8) :: O9) ++ (R9 ++ (((tlr ++ tlf) ++ tla) ++ tlb)))) (by simp only [List.append_assoc])
      clear hok' hrl hra hrb abr abf aba abb htp
      generalize ((tlr ++ tlf) ++ tla) ++ tlb = TT at hTT hok2 hrl2 hra2 hrb2 N14
      have hoA := OwnOff.app hooY (ab_turn_off hTT)
      clear hooY hY hY2 hXR
      have kT := Hid.mk hTT
      have kF := Hid.mk F13
      have kN := Hid.mk N14
      clear hTT
      k_extra "mine:clean"
      obtain ⟨F13⟩ := kF
      obtain ⟨N14⟩ := kN
      obtain ⟨vsw, nw, hlw, hpw⟩ := id hrl2
      have hpwl : vsw.length = ps9.length + 1 := hpw.length
      cases hpw with | @cons v0 vs0 _ _ h0 hpr =>
      cases h0 with | @mk aw _ _ tw uw nnw hmw =>
      rw [List.length_cons] at hpwl
      have hpwl0 : vs0.length = ps9.length := by k_extra "mine:om"
      obtain ⟨vst, nt9, hlt, hpt⟩ := id hra2
      obtain ⟨vsm, nm9, hlm, hpm⟩ := id hrb2
      have hptl := hpt.length
      have hpml := hpm.length
      rw [List.length_take, List.length_cons] at hptl hpml
      have hct : IntsAre (cv9.take (0 + (i : Int) + 1).toNat) (cs9.take (i + 1)) := by rw [show (0 + (i : Int) + 1).toNat = i + 1 by k_extra "mine:om"]; exact hcc.take (i + 1)
      have hfull := PairsIn.cons (PairIn.mk hmw) hpr
      have hvt60 : vst.length ≤ 60 := by k_extra "mine:om"
      have hvm60 : vsm.length ≤ 60 := by k_extra "mine:om"
      have hvs60 : (Value.ref aw :: vs0).length ≤ 60 := by rw [List.length_cons]; k_extra "mine:om"
      have hvtm : vst.length ≤ vsm.length := by k_extra "mine:om"
      have hH := Hid.mk (And.intro hptl hpwl0)
      have hK := Hid.mk hpt.length
      clear hptl hpml hpwl hpwl0
      dsimp only at hhd
      dsimp only [rcvL, List.cons_append, List.nil_append] at N14 hlw hmw hlt hlm
      (try dsimp only)
      k_steps
      · rename _ ∈ List.take _ cs9 => hm9
        rename (∀ a : Int, a ∈ List.take _ cs9 → a ≤ _) => ha9
        rename hi9 ≠ _ => hn9
        exact absurd (Int.le_antisymm (ha9 _ hhd.1) (hhd.2 _ hm9)) hn9
      · rename (_ : Int) ≠ _ => hn9
        rw [Int.fdiv_eq_ediv_of_nonneg _ (by decide), List.length_cons] at hn9
        obtain ⟨hptl, hpwl0⟩ := hH.out
        exfalso
        split at hn9 <;> k_extra "mine:om"
      · rename Fr _ _ _ _ => F15; rename News _ _ _ _ => N15
        apply Stop.go
        refine' ne_dat N15 hra2.dat ?ms1 (DatIn.list ?m2 (((hfull.take _).mono ?ms2).dat)) (fun p h => h) (datR_ok8 _) (datR_ok8 _) ?mu (fun _ => ?_) (fun e => absurd ?meq e)
        case m2 => exact List.mem_cons_self
        case ms1 => (try simp only [rcvL, List.cons_append, List.nil_append]); k_extra "mine:sub"
        case ms2 => (try simp only [rcvL, List.cons_append, List.nil_append]); k_extra "mine:sub"
        case mu => k_extra "mine:un8"
        case meq => exact datR_iff.mpr (by rw [Int.toNat_natCast, hK.out, take_take_len])
        k_steps
        rename Fr _ _ _ _ => F16; rename News _ _ _ _ => N16
        apply Stop.go
        refine' ne_dat N16 (DatIn.list ?m2 (((hpm.take _).mono ?ms2).dat)) (fun p h => h) hra2.dat ?ms1 (datR_ok8 _) (datR_ok8 _) ?mu (fun _ => ?_) (fun e => absurd ?meq e)
        case m2 => exact List.mem_cons_self
        case ms1 => (try simp only [rcvL, List.cons_append, List.nil_append]); k_extra "mine:sub"
        case ms2 => (try simp only [rcvL, List.cons_append, List.nil_append]); k_extra "mine:sub"
        case mu => k_extra "mine:un8"
        case meq => exact datR_iff.mpr (by rw [Int.toNat_natCast, hK.out, take_take_len2 _ (by k_extra "mine:om")])
        k_steps
        · exfalso; k_extra "mine:om"
        rename Fr _ _ _ _ => F17; rename News _ _ _ _ => N17
        subst hO9
        refine' hQ9 _ _ (LEnd.intro (⟨c1', k8 + 1, _, _, wv8 ++ [.ref ta], _⟩ : L2) TT F17 N17 ?mK ?mN ?mA ?mS ⟨hok2.mono ?mJ, ?mC, wss ++ [((lo, hi9) :: ps9).take ((3 + v9 - 2) / 2).toNat], WdsIn.snoc (hwd.mono ?mW) (hra2.mono ?mR), ?mL, ?mG⟩)
        case mK => k_extra "mine:binds"
        case mN => (try simp only [rcvL, List.cons_append, List.nil_append]); k_extra "mine:sub"
        case mA => exact (ab_turn kT.out).sub (by (try simp only [rcvL, List.cons_append, List.nil_append]); k_extra "mine:sub")
        case mS => k_extra "mine:same"
        case mJ => exact fun p h => List.mem_append.mpr (List.mem_append.mp h).symm
        case mC => have hck := hckH.out; dsimp only; k_extra "mine:om"
        case mW => exact fun p h => List.mem_append_right _ h
        case mR => exact fun p h => List.mem_append.mpr (List.mem_append.mp h).symm
        case mL => rw [List.length_append, hwl]; rfl
        case mG =>
          intro v hv
          rcases List.mem_append.mp hv with hv | hv
          · exact hwg v hv
          · rw [List.mem_singleton.mp hv]
            refine ⟨hgw.take _, fun x hx => ?_⟩
            have := InR.take (hasNum_iff.mp hx)
            rw [← hps9] at this
            exact List.mem_of_mem_take (((rcvFold_rcv _).2 x).mp this)

    case a7 =>
      rintro c add u h' tk hab hoo ⟨hok, hck, wss, hwd, hwl, hwg⟩ F1 N1
      obtain ⟨c1, k8, kt8, n8, wv8, wn8⟩ := c
      dsimp only at hok hck hwd N1 hab
      rw [hcvl, List.take_length] at hok
      have hwvl : wv8.length = wss.length := hwd.length
      dsimp only [rcvL, List.cons_append, List.nil_append] at N1
      have hk8a : 0 ≤ k8 := by omega
      have hk8b : k8 ≤ 40 := by omega
      have hwv60 : wv8.length ≤ 60 := by omega
      clear hck
      (try dsimp only)
      refine letF F1 ?_
      clear F1
      intro mF18 F1
      k_steps
      rename Fr _ _ _ _ => F2; rename News _ _ _ _ => N2
      apply Stop.go
      (try k_fold)
      refine' Con.use (ltake_con (bx := bx) (xs := xl) (I := rcvL w d1 ec1 c1 ++ ((wd, listOf wv8.toArray wn8) :: (rcvL w d2 ec2 c2 ++ (add ++ ([(lf, listOf lv9.toArray ln9), (cm, listOf cv9.toArray cn9), (xl, listOf vx.toArray nx), (e3, p2), (e2, p1), (e1, q10)] ++ TL))))) ⟨_, _, ?h1, hI1⟩ ?h2 ?h3 ?h4 ?h5 ?h6 ?h7) ?mB7 F2 ?mX7 (cb_drop N2 ?mS) ?mT7 ?mk7 ?md7 ?mu7 ?_
      case mS => (try simp only [rcvL, List.cons_append, List.nil_append]); k_extra "mine:sub"
      case h1 => k_extra "mine:mem"
      case h2 => rw [List.length_take]; omega
      case h3 => simp only [rcvL, List.cons_append, List.nil_append] at hoo ⊢; refine off_of ?_; k_extra "mine:neas"
      case h4 => omega
      case h5 => omega
      case h6 => omega
      case h7 => omega
      k_extra "mine:use8"
      rintro r3 n3 h3 tk3 F3 N3 ⟨v9, t9', kt9', k9', rfl, hv4, hv5, rfl⟩
      (try dsimp only)
      dsimp only [rcvL, List.cons_append, List.nil_append] at N3
      k_steps
      rename Fr _ _ _ _ => F4; rename News _ _ _ _ => N4
      apply Stop.go
      (try k_fold)
      refine' Con.use (ltake_con (bx := bx) (xs := xl) (I := rcvL w d1 ec1 c1 ++ ((wd, listOf wv8.toArray wn8) :: (rcvL w d2 ec2 c2 ++ (add ++ ([(lf, listOf lv9.toArray ln9), (cm, listOf cv9.toArray cn9), (xl, listOf vx.toArray nx), (e3, p2), (e2, p1), (e1, q10)] ++ TL))))) ⟨_, _, ?h1, hI1⟩ ?h2 ?h3 ?h4 ?h5 ?h6 ?h7) ?mB7 F4 ?mX7 (cb_drop N4 ?mS) ?mT7 ?mk7 ?md7 ?mu7 ?_
      case mS => (try simp only [rcvL, List.cons_append, List.nil_append]); k_extra "mine:sub"
      case h1 => k_extra "mine:mem"
      case h2 => rw [List.length_take]; omega
      case h3 => simp only [rcvL, List.cons_append, List.nil_append] at hoo ⊢; refine off_of ?_; k_extra "mine:neas"
      case h4 => omega
      case h5 => omega
      case h6 => omega
      case h7 => omega
      k_extra "mine:use8"
      rintro r4 n4 h4 tk4 F5 N5 ⟨v10, t10, kt10, k10, rfl, hv6, hv7, rfl⟩
      (try dsimp only)
      dsimp only [rcvL, List.cons_append, List.nil_append] at N5
      k_steps
      rename Fr _ _ _ _ => F6; rename News _ _ _ _ => N6
      apply Stop.go
      (try k_fold)
      refine For_turns F6 ?_
      k_steps
      rename Fr _ _ _ _ => F7; rename News _ _ _ _ => N7
      apply Stop.go
      refine nm1 N7 ?_
      rintro D9 rfl
      rename (∀ (p : Addr × Obj), p ∈ _ → p.1 < D9) => lD9
      have hD1 : NeA d2 D9 := ⟨Nat.ne_of_lt (lD9 (d2, _) (by k_extra "mine:mem"))⟩
      have hD2 : NeA ec2 D9 := ⟨Nat.ne_of_lt (lD9 (ec2, _) (by k_extra "mine:mem"))⟩
      have hD3 : NeA d1 D9 := ⟨Nat.ne_of_lt (lD9 (d1, _) (by k_extra "mine:mem"))⟩
      have hD4 : NeA ec1 D9 := ⟨Nat.ne_of_lt (lD9 (ec1, _) (by k_extra "mine:mem"))⟩
      have kF := Hid.mk F7
      have kN := Hid.mk (cb_drop (news := rcvL w d2 ec2 c2 ++ (rcvL w d1 ec1 c1 ++ ([(D9, listOf (cv9.drop (Int.toNat v9) ++ cv9.take (Int.toNat v9)).reverse.toArray 0), (wd, listOf wv8.toArray wn8), (lf, listOf lv9.toArray ln9), (cm, listOf cv9.toArray cn9), (xl, listOf vx.toArray nx), (e3, p2), (e2, p1), (e1, q10)] ++ (TL ++ add)))) N7 (by (try simp only [rcvL, List.cons_append, List.nil_append]); k_extra "mine:sub"))
      k_extra "mine:clean"
      obtain ⟨F8⟩ := kF
      obtain ⟨N8⟩ := kN
      have hzi : IntsAre (cv9.drop (Int.toNat v9) ++ cv9.take (Int.toNat v9)).reverse (cs9.drop (Int.toNat v9) ++ cs9.take (Int.toNat v9)).reverse := ints_rev (IntsAre.append (hcc.drop _) (hcc.take _))
      have hzp : (cs9.drop (Int.toNat v9) ++ cs9.take (Int.toNat v9)).reverse.Perm cs9 := (List.reverse_perm _).trans (List.perm_append_comm.trans (List.Perm.of_eq (List.take_append_drop _ _)))
      generalize hzs : (cs9.drop (Int.toNat v9) ++ cs9.take (Int.toNat v9)).reverse = zs at hzi hzp
      generalize hzv : (cv9.drop (Int.toNat v9) ++ cv9.take (Int.toNat v9)).reverse = zv at hzi N8
      have hzl : zv.length = zs.length := hzi.length
      have hzl2 : zs.length = cs9.length := hzp.length_eq
      have hzv60 : zv.length ≤ 60 := by omega
      have hxT : (x2, instObj 245 d2) ∈ (rcvL w d1 ec1 c1 ++ ([(D9, listOf zv.toArray 0), (wd, listOf wv8.toArray wn8), (lf, listOf lv9.toArray ln9), (cm, listOf cv9.toArray cn9), (xl, listOf vx.toArray nx), (e3, p2), (e2, p1), (e1, q10)] ++ (TL ++ add))) := by k_extra "mine:mem"
      refine' floop_list (σ := RcvC) (vs := zv) (nn := 0) (fun c => rcvL w d2 ec2 c) (fun c => []) ["number"] (fun i c J => RcvOK w J c (rcvFold (zs.take i))) [d2, ec2] c2 (rcvL w d1 ec1 c1 ++ ([(D9, listOf zv.toArray 0), (wd, listOf wv8.toArray wn8), (lf, listOf lv9.toArray ln9), (cm, listOf cv9.toArray cn9), (xl, listOf vx.toArray nx), (e3, p2), (e2, p1), (e1, q10)] ++ (TL ++ add))) rfl ?a0 ?aF ?aN ?a1 ?a2 ?a3 ?a4 ?a5 ?a6 ?a7
      case aF => exact F8
      case aN => exact N8
      case a0 => k_extra "mine:mem"
      case a1 => exact fun p h => h
      case a2 => intro c; rfl
      case a3 =>
        simp only [rcvL, List.cons_append, List.nil_append]
        refine off_of ?_
        k_extra "mine:neas"
      case a4 => k_extra "mine:binds"
      case a5 =>
        show RcvOK w _ c2 ⟨[], none, 0, 0, 0⟩
        refine hk2.mono ?_
        k_extra "mine:sub"
      case a6 =>
        rintro i v c add3 u3 h3' tk3' own3 Q9 hQ9 hv3 hab3 hoo3 hoo4 hok3 F1 N1
        have hi3 : i < zs.length := by have := (List.getElem?_eq_some_iff.mp hv3).1; omega
        obtain ⟨z9, hz9⟩ : ∃ z9, zs[i]? = some z9 := ⟨_, List.getElem?_eq_getElem hi3⟩
        obtain ⟨t9, ht9⟩ := hzi.get i z9 hz9
        rw [ht9] at hv3
        obtain rfl := Option.some.inj hv3
        have hzm : ∀ x ∈ zs, 0 ≤ x ∧ x < M := fun x hx => hdr.cs_in x (hzp.mem_iff.mp hx)
        have hgz : Good M (rcvFold (zs.take i)).rcv := rcvFold_good fun x hx => hzm x (List.mem_of_mem_take hx)
        have hgzl : (rcvFold (zs.take i)).rcv.length ≤ 9 := Nat.le_trans hgz.len (by omega)
        (try dsimp only at N1)
        dsimp only [rcvL, List.cons_append, List.nil_append] at N1
        (try dsimp only)
        refine letF F1 ?_
        clear F1
        intro mF19 F1
        k_steps
        rename Fr _ _ _ _ => F2; rename News _ _ _ _ => N2
        apply Stop.go
        (try k_fold)
        refine' Con.use (recv_con (Y9 := own3) (I := add3 ++ (rcvL w d1 ec1 c1 ++ ([(D9, listOf zv.toArray 0), (wd, listOf wv8.toArray wn8), (lf, listOf lv9.toArray ln9), (cm, listOf cv9.toArray cn9), (xl, listOf vx.toArray nx), (e3, p2), (e2, p1), (e1, q10)] ++ (TL ++ add)))) hok3 (List.mem_append_right _ hxT) (OwnOff.sub hoo3 fun p h => List.mem_append.mpr (List.mem_append.mp h).symm) (OwnOff.symm hoo4) hde2 (by omega) (Int.fmod_eq_emod_of_nonneg z9 (by decide)).symm) ?mB7 F2 ?mX7 (cb_drop N2 ?mS) ?mT7 ?mk7 ?md7 ?mu7 ?_
        case mS => (try simp only [rcvL, List.cons_append, List.nil_append]); k_extra "mine:sub"
        k_extra "mine:use8"
        rintro r5 n5 h5 tk5 F5 N5 ⟨c', tlr, rfl, abr, hok'⟩
        rw [← rcvFold_take hz9] at hok'
        (try dsimp only)
        have N5b := cb_drop N5 (fun p h => h)
        dsimp only [rcvL, List.cons_append, List.nil_append] at N5b
        k_steps
        rename Fr _ _ _ _ => F6; rename News _ _ _ _ => N6
        refine' hQ9 _ _ (LEnd.intro c' tlr F6 N6 ?mK ?mN ?mA ?mS (hok'.mono ?mJ))
        case mK => k_extra "mine:binds"
        case mN => (try simp only [rcvL, List.cons_append, List.nil_append]); k_extra "mine:sub"
        case mA => exact (rcvL_ab (c' := c') abr).sub fun p h => (List.mem_append.mp h).elim (fun h => List.mem_append_left _ h) (fun h => List.mem_append_right _ (List.mem_append.mpr (List.mem_append.mp h).symm))
        case mS => k_extra "mine:same"
        case mJ => exact fun p h => List.mem_append.mpr (List.mem_append.mp h).symm
      case a7 =>
        rintro c add3 u3 h3' tk3' hab3 hoo3 hok3 F1 N1
        (try dsimp only at N1)
        rw [hzl, List.take_length, rcvFold_perm hzp] at hok3
        dsimp only [rcvL, List.cons_append, List.nil_append] at N1
        (try dsimp only)
        refine letF F1 ?_
        clear F1
        intro mF20 F1
        k_steps
        rename Fr _ _ _ _ => F2; rename News _ _ _ _ => N2
        have kF := Hid.mk F2
        have kN := Hid.mk (cb_drop (news := rcvL w d1 ec1 c1 ++ (rcvL w d2 ec2 c ++ ((wd, listOf wv8.toArray wn8) :: (lf, listOf lv9.toArray ln9) :: (cm, listOf cv9.toArray cn9) :: (e3, p2) :: (e2, p1) :: (e1, q10) :: ((xl, listOf vx.toArray nx) :: (D9, listOf zv.toArray 0) :: (add3 ++ (TL ++ add)))))) N2 (by (try simp only [rcvL, List.cons_append, List.nil_append]); k_extra "mine:sub"))
        k_extra "mine:clean"
        have hO2 : OwnOff (rcvL w d1 ec1 c1 ++ ((wd, listOf wv8.toArray wn8) :: (lf, listOf lv9.toArray ln9) :: (cm, listOf cv9.toArray cn9) :: (e3, p2) :: (e2, p1) :: (e1, q10) :: ((xl, listOf vx.toArray nx) :: (D9, listOf zv.toArray 0) :: (add3 ++ (TL ++ add))))) [d2, ec2] := OwnOff.sub hoo3 (by (try simp only [rcvL, List.cons_append, List.nil_append]); k_extra "mine:sub")
        have hO1 : OwnOff (rcvL w d2 ec2 c ++ ((wd, listOf wv8.toArray wn8) :: (lf, listOf lv9.toArray ln9) :: (cm, listOf cv9.toArray cn9) :: (e3, p2) :: (e2, p1) :: (e1, q10) :: ((xl, listOf vx.toArray nx) :: (D9, listOf zv.toArray 0) :: (add3 ++ (TL ++ add))))) [d1, ec1] := by
          simp only [rcvL, List.cons_append, List.nil_append] at hoo ⊢
          refine off_of ?_
          k_extra "mine:neas"
        have hQ1 : RcvOK w ((wd, listOf wv8.toArray wn8) :: (lf, listOf lv9.toArray ln9) :: (cm, listOf cv9.toArray cn9) :: (e3, p2) :: (e2, p1) :: (e1, q10) :: ((xl, listOf vx.toArray nx) :: (D9, listOf zv.toArray 0) :: (add3 ++ (TL ++ add)))) c1 (rcvFold cs9) := hok.mono (by k_extra "mine:sub")
        have hQ2 : RcvOK w (rcvL w d1 ec1 c1 ++ ((wd, listOf wv8.toArray wn8) :: (lf, listOf lv9.toArray ln9) :: (cm, listOf cv9.toArray cn9) :: (e3, p2) :: (e2, p1) :: (e1, q10) :: ((xl, listOf vx.toArray nx) :: (D9, listOf zv.toArray 0) :: (add3 ++ (TL ++ add))))) c (rcvFold cs9) := hok3.mono (by (try simp only [rcvL, List.cons_append, List.nil_append]); k_extra "mine:sub")
        have hW : WdsIn ((wd, listOf wv8.toArray wn8) :: (lf, listOf lv9.toArray ln9) :: (cm, listOf cv9.toArray cn9) :: (e3, p2) :: (e2, p1) :: (e1, q10) :: ((xl, listOf vx.toArray nx) :: (D9, listOf zv.toArray 0) :: (add3 ++ (TL ++ add)))) wv8 wss := hwd.mono (by k_extra "mine:sub")
        have hX1 : (x1, instObj 245 d1) ∈ ((wd, listOf wv8.toArray wn8) :: (lf, listOf lv9.toArray ln9) :: (cm, listOf cv9.toArray cn9) :: (e3, p2) :: (e2, p1) :: (e1, q10) :: ((xl, listOf vx.toArray nx) :: (D9, listOf zv.toArray 0) :: (add3 ++ (TL ++ add)))) := by k_extra "mine:mem"
        have hX2 : (x2, instObj 245 d2) ∈ ((wd, listOf wv8.toArray wn8) :: (lf, listOf lv9.toArray ln9) :: (cm, listOf cv9.toArray cn9) :: (e3, p2) :: (e2, p1) :: (e1, q10) :: ((xl, listOf vx.toArray nx) :: (D9, listOf zv.toArray 0) :: (add3 ++ (TL ++ add)))) := by k_extra "mine:mem"
        have mwd : (wd, listOf wv8.toArray wn8) ∈ ((wd, listOf wv8.toArray wn8) :: (lf, listOf lv9.toArray ln9) :: (cm, listOf cv9.toArray cn9) :: (e3, p2) :: (e2, p1) :: (e1, q10) :: ((xl, listOf vx.toArray nx) :: (D9, listOf zv.toArray 0) :: (add3 ++ (TL ++ add)))) := by k_extra "mine:mem"
        have mlf : (lf, listOf lv9.toArray ln9) ∈ ((wd, listOf wv8.toArray wn8) :: (lf, listOf lv9.toArray ln9) :: (cm, listOf cv9.toArray cn9) :: (e3, p2) :: (e2, p1) :: (e1, q10) :: ((xl, listOf vx.toArray nx) :: (D9, listOf zv.toArray 0) :: (add3 ++ (TL ++ add)))) := by k_extra "mine:mem"
        have mcm : (cm, listOf cv9.toArray cn9) ∈ ((wd, listOf wv8.toArray wn8) :: (lf, listOf lv9.toArray ln9) :: (cm, listOf cv9.toArray cn9) :: (e3, p2) :: (e2, p1) :: (e1, q10) :: ((xl, listOf vx.toArray nx) :: (D9, listOf zv.toArray 0) :: (add3 ++ (TL ++ add)))) := by k_extra "mine:mem"
        have mp2 : (e3, p2) ∈ ((wd, listOf wv8.toArray wn8) :: (lf, listOf lv9.toArray ln9) :: (cm, listOf cv9.toArray cn9) :: (e3, p2) :: (e2, p1) :: (e1, q10) :: ((xl, listOf vx.toArray nx) :: (D9, listOf zv.toArray 0) :: (add3 ++ (TL ++ add)))) := by k_extra "mine:mem"
        have mp1 : (e2, p1) ∈ ((wd, listOf wv8.toArray wn8) :: (lf, listOf lv9.toArray ln9) :: (cm, listOf cv9.toArray cn9) :: (e3, p2) :: (e2, p1) :: (e1, q10) :: ((xl, listOf vx.toArray nx) :: (D9, listOf zv.toArray 0) :: (add3 ++ (TL ++ add)))) := by k_extra "mine:mem"
        have mq1 : (e1, q10) ∈ ((wd, listOf wv8.toArray wn8) :: (lf, listOf lv9.toArray ln9) :: (cm, listOf cv9.toArray cn9) :: (e3, p2) :: (e2, p1) :: (e1, q10) :: ((xl, listOf vx.toArray nx) :: (D9, listOf zv.toArray 0) :: (add3 ++ (TL ++ add)))) := by k_extra "mine:mem"
        generalize ((wd, listOf wv8.toArray wn8) :: (lf, listOf lv9.toArray ln9) :: (cm, listOf cv9.toArray cn9) :: (e3, p2) :: (e2, p1) :: (e1, q10) :: ((xl, listOf vx.toArray nx) :: (D9, listOf zv.toArray 0) :: (add3 ++ (TL ++ add)))) = Z at hO1 hO2 hQ1 hQ2 hW kN hX1 hX2 mwd mlf mcm mp2 mp1 mq1
        clear hoo hoo3 hab hab3 hok hok3 hwd hT1 hT2 hT3 hT4 hxT hk1 hk2 hx1 hx2
        clear g1 g2 g3 g4 g5 g6 g21 g22 g23 g24 g25 g26 g27 g28 g29 g30 g31 g32 g33 g34 g35 g36 g37 g38 g39
        clear f1 f2 f3 f4 f5 f6 f7 f8 f9 f10 f11 f12 f13 f14 f15 f16 f17 f18 f19 f20 f21 f22 f23 f24 f25 f26 f27 f28 f29 f30 f31 f32 f61 f62 f63 f64
        have hw8 : wss.length ≤ 8 := by omega
        clear hwl hzi hzl hzl2 hzs hzv hzp
        have hci : 0 < cs9.length := by k_extra "mine:om"
        obtain ⟨lsm, hlsm, hlm1, hlm2⟩ := rcvFold_ls_ne hci
        have hga : Good M (rcvFold cs9).rcv := rcvFold_good hdr.cs_in
        have hgl : (rcvFold cs9).rcv.length ≤ 9 := Nat.le_trans hga.len (by k_extra "mine:om")
        obtain ⟨F2⟩ := kF
        obtain ⟨N2⟩ := kN
        apply Stop.go
        (try k_fold)
        refine' Con.use (frame_con (Y9 := rcvL w d2 ec2 c) (I := Z) (c := c1) hQ1 (by k_extra "mine:mem") hO1 hde1 (by k_extra "mine:om") (rcvFold_ne hci) hlsm) ?mB7 F2 ?mX7 N2 ?mT7 ?mk7 ?md7 ?mu7 ?_
        k_extra "mine:use8"
        rintro r6 n6 h6 tk6 F9 N9 ⟨tp6, dl6, td6, rl6, mv6, ts6, nn6, tlf, rfl, rfl, abf, htp, hrl, hmk⟩
        (try dsimp only)
        dsimp only [rcvL, List.cons_append, List.nil_append] at N9
        k_steps
        rename Fr _ _ _ _ => F3; rename News _ _ _ _ => N3
        apply Stop.go
        have hO3 : OwnOff ([] ++ (rcvL w d1 ec1 c1 ++ (Z ++ tlf))) [d2, ec2] := by
          rw [List.nil_append, ← List.append_assoc]
          exact OwnOff.app hO2 (OwnOff.of_ab (o := rcvL w d2 ec2 c) (abf.sub fun p h => List.mem_append_right _ (List.mem_append_left _ h)))
        (try k_fold)
        refine' Con.use (frame_con (Y9 := []) (I := rcvL w d1 ec1 c1 ++ (Z ++ tlf)) (c := c) (hQ2.mono (by (try simp only [rcvL, List.cons_append, List.nil_append]); k_extra "mine:sub")) (by k_extra "mine:mem") hO3 hde2 (by k_extra "mine:om") (rcvFold_ne hci) hlsm) ?mB7 F3 ?mX7 (cb_drop N3 ?mS) ?mT7 ?mk7 ?md7 ?mu7 ?_
        case mS => (try simp only [rcvL, List.cons_append, List.nil_append]); k_extra "mine:sub"
        k_extra "mine:use8"
        rintro r7 n7 h7 tk7 F4 N4 ⟨tp7, dl7, td7, rl7, mv7, ts7, nn7, tlg, rfl, rfl, abg, htq, hrm, hml⟩
        (try dsimp only)
        dsimp only [rcvL, List.cons_append, List.nil_append] at N4
        k_steps
        rename Fr _ _ _ _ => F5; rename News _ _ _ _ => N5
        apply Stop.go
        refine' ne_dat N5 (DatIn.tuple ?m1 (DatAll.cons (hrm.mono ?m2).dat (DatAll.cons (hml.mono ?m3).dat .nil))) (fun p h => h) (DatIn.tuple ?m4 (DatAll.cons (hrl.mono ?m5).dat (DatAll.cons (hmk.mono ?m6).dat .nil))) (fun p h => h) (datW_ok _ _ _ _) (datW_ok _ _ _ _) ?mu (fun _ => ?_) (fun e => absurd rfl e)
        case m1 => exact List.mem_cons_of_mem _ List.mem_cons_self
        case m4 => exact List.mem_cons_self
        case m2 => (try simp only [rcvL, List.cons_append, List.nil_append]); k_extra "mine:sub"
        case m3 => k_extra "mine:sub"
        case m5 => (try simp only [List.cons_append, List.nil_append]); k_extra "mine:sub"
        case m6 => k_extra "mine:sub"
        case mu => k_extra "mine:un8"
        obtain ⟨te1, he1⟩ := hQ1.seen hlsm
        obtain ⟨te2, he2⟩ := hQ2.seen hlsm
        rw [he1, he2] at N5
        k_steps
        rename IsRange _ _ _ _ _ _ _ _ => rg6
        rename Fr _ _ _ _ => F6; rename News _ _ _ _ => N6
        rw [← he1, ← he2] at N6
        have kF := Hid.mk F6
        have kN := Hid.mk (cb_drop (news := rcvL w d1 ec1 c1 ++ (rcvL w d2 ec2 c ++ (Z ++ tlf))) N6 (by (try simp only [rcvL, List.cons_append, List.nil_append]); k_extra "mine:sub"))
        k_extra "mine:clean"
        have hP1 : OwnOff (rcvL w d2 ec2 c ++ (Z ++ tlf)) [d1, ec1] := OwnOff.sub (OwnOff.app hO1 (OwnOff.of_ab (o := rcvL w d1 ec1 c1) (abf.sub fun p h => List.mem_append_left _ h))) (by (try simp only [rcvL, List.cons_append, List.nil_append]); k_extra "mine:sub")
        have hP2 : OwnOff (rcvL w d1 ec1 c1 ++ (Z ++ tlf)) [d2, ec2] := OwnOff.sub hO3 (by (try simp only [rcvL, List.cons_append, List.nil_append]); k_extra "mine:sub")
        have hS1 : RcvOK w (Z ++ tlf) c1 (rcvFold cs9) := hQ1.mono (by k_extra "mine:sub")
        have hS2 : RcvOK w (rcvL w d1 ec1 c1 ++ (Z ++ tlf)) c (rcvFold cs9) := hQ2.mono (by (try simp only [rcvL, List.cons_append, List.nil_append]); k_extra "mine:sub")
        have hV : WdsIn (Z ++ tlf) wv8 wss := hW.mono (by k_extra "mine:sub")
        have hU : RngIn (Z ++ tlf) rl6 (rcvFold cs9).rcv := hrl.mono (by (try simp only [rcvL, List.cons_append, List.nil_append]); k_extra "mine:sub")
        have mwd : (wd, listOf wv8.toArray wn8) ∈ Z ++ tlf := List.mem_append_left _ mwd
        have mlf : (lf, listOf lv9.toArray ln9) ∈ Z ++ tlf := List.mem_append_left _ mlf
        have mcm : (cm, listOf cv9.toArray cn9) ∈ Z ++ tlf := List.mem_append_left _ mcm
        have mp2 : (e3, p2) ∈ Z ++ tlf := List.mem_append_left _ mp2
        have mp1 : (e2, p1) ∈ Z ++ tlf := List.mem_append_left _ mp1
        have mq1 : (e1, q10) ∈ Z ++ tlf := List.mem_append_left _ mq1
        have hX1 : (x1, instObj 245 d1) ∈ Z ++ tlf := List.mem_append_left _ (by k_extra "mine:mem")
        have hX2 : (x2, instObj 245 d2) ∈ Z ++ tlf := List.mem_append_left _ (by k_extra "mine:mem")
        have hY : (tp6, _) ∈ Z ++ tlf := List.mem_append_right _ htp
        clear hO1 hO2 hO3 hQ1 hQ2 hW hrl htp htq abf abg hmk hrm hml he1 he2
        generalize Z ++ tlf = Z1 at hP1 hP2 hS1 hS2 hV hU hX1 hX2 hY kN mwd mlf mcm mp2 mp1 mq1
        obtain ⟨F6⟩ := kF
        obtain ⟨N6⟩ := kN
        apply Stop.go
        refine CompSrc.range (n := M) (by rfl) F6 N6 rg6 (range_sm (by k_extra "mine:om") (by k_extra "mine:om") (by k_extra "mine:om") (by k_extra "mine:om")) (by rw [range_sz]; k_extra "mine:om") (by rw [PySem.sizeLine_eq]; k_extra "mine:om") ?_
        intro g9
        refine restU (fun i ys tl => ys = ((span 0 i).map fun x => decide (x ∈ cs9)).map Value.bool) (fun _ => trivial) rfl ?_ ?_
        · rintro i5 ys tl5 hi9 hab5 rfl v it oit C oC D m₂ h9 tk9 E9 hv hoC hx1 F7 N7 off ne
          obtain ⟨t9, rfl⟩ := hv
          dsimp only [rcvL, List.cons_append, List.nil_append] at N7
          k_steps
          rename Fr _ _ _ _ => F8; rename News _ _ _ _ => N8
          refine' TEnd.intro [] F8 N8 ?mS Ab.nil ?mR
          case mS => (try simp only [rcvL, List.cons_append, List.nil_append]); k_extra "mine:sub"
          case mR => exact (boolv_succ (fun x => decide (x ∈ cs9)) i5).symm
        · rintro ys tl5 hab5 rfl
          k_steps
          rename IsRange _ _ _ _ _ _ _ _ => rg7
          rename Fr _ _ _ _ => F9; rename News _ _ _ _ => N9
          rename LCg.Off1 _ _ => of1
          refine nm1 N9 ?_
          rintro Dk rfl
          have hOk : OwnOff ((Dk, LCg.lst (((span 0 M).map fun x => decide (x ∈ cs9)).map Value.bool)) :: (rcvL w d2 ec2 c ++ Z1)) [d1, ec1] := off1_own of1 (by k_extra "mine:mem") (by k_extra "mine:mem") hP1
          have hOk2 : OwnOff ((Dk, LCg.lst (((span 0 M).map fun x => decide (x ∈ cs9)).map Value.bool)) :: (rcvL w d1 ec1 c1 ++ Z1)) [d2, ec2] := off1_own of1 (by k_extra "mine:mem") (by k_extra "mine:mem") hP2
          have kF := Hid.mk F9
          have kN := Hid.mk (cb_drop (news := rcvL w d1 ec1 c1 ++ ((Dk, LCg.lst (((span 0 M).map fun x => decide (x ∈ cs9)).map Value.bool)) :: (rcvL w d2 ec2 c ++ Z1))) N9 (by (try simp only [rcvL, List.cons_append, List.nil_append]); k_extra "mine:sub"))
          k_extra "mine:clean"
          clear of1 hab5 hP1 hP2
          obtain ⟨F9⟩ := kF
          obtain ⟨N9⟩ := kN
          generalize hkn : ((span 0 M).map fun x => decide (x ∈ cs9)).map Value.bool = kn at hOk hOk2 N9
          apply Stop.go
          refine CompSrc.range (n := M) (by rfl) F9 N9 rg7 (range_sm (by k_extra "mine:om") (by k_extra "mine:om") (by k_extra "mine:om") (by k_extra "mine:om")) (by rw [range_sz]; k_extra "mine:om") (by rw [PySem.sizeLine_eq]; k_extra "mine:om") ?_
          intro g8
          refine restU (fun i ys tl => ys = ((span 0 i).map fun x => decide (x ∈ cs9)).map Value.bool) (fun _ => trivial) rfl ?_ ?_
          · rintro i5 ys tl6 hi9 hab6 rfl v it oit C oC D m₂ h9 tk9 E9 hv hoC hx1 F7 N7 off ne
            obtain ⟨t9, rfl⟩ := hv
            generalize hys5 : ((span 0 i5).map fun x => decide (x ∈ cs9)).map Value.bool = ys5 at N7
            dsimp only [rcvL, List.cons_append, List.nil_append] at N7
            k_steps
            rename Fr _ _ _ _ => F8; rename News _ _ _ _ => N8
            apply Stop.go
            have hof : OwnOff ([(it, oit), (C, oC), (D, LCg.lst ys5)] ++ (((Dk, LCg.lst kn) :: (rcvL w d2 ec2 c ++ Z1)) ++ tl6)) [d1, ec1] := OwnOff.app (off3_own off (by k_extra "mine:mem") (by k_extra "mine:mem")) (OwnOff.app hOk (OwnOff.of_ab (o := rcvL w d1 ec1 c1) hab6.app_o))
            (try k_fold)
            refine' Con.use (known_con (c := c1) (I := [(it, oit), (C, oC), (D, LCg.lst ys5)] ++ (((Dk, LCg.lst kn) :: (rcvL w d2 ec2 c ++ Z1)) ++ tl6)) (hS1.mono ?ms1) ?mx1 hof hde1 (by k_extra "mine:om") (by k_extra "mine:om")) ?mB7 F8 ?mX7 (cb_drop N8 ?mS) ?mT7 ?mk7 ?md7 ?mu7 ?_
            case ms1 => (try simp only [rcvL, List.cons_append, List.nil_append]); k_extra "mine:sub"
            case mx1 => k_extra "mine:mem"
            case mS => (try simp only [rcvL, List.cons_append, List.nil_append]); k_extra "mine:sub"
            k_extra "mine:use8"
            rintro r4 n4 h4 tk4 F5 N5 ⟨tlk, rfl, rfl, abk⟩
            (try dsimp only)
            refine' TEnd.intro tlk F5 N5 ?mS2 ?mA ?mR
            case mS2 => (try simp only [rcvL, List.cons_append, List.nil_append]); k_extra "mine:sub"
            case mA => exact abk.sub (by (try simp only [rcvL, List.cons_append, List.nil_append]); k_extra "mine:sub")
            case mR => rw [hasNum_fold, ← hys5]; exact (boolv_succ (fun x => decide (x ∈ cs9)) i5).symm
          · rintro ys tl6 hab6 rfl
            k_steps
            rename Fr _ _ _ _ => F11; rename News _ _ _ _ => N11
            apply Stop.go
            refine' ne_bools N11 (bs := (span 0 M).map fun x => decide (x ∈ cs9)) (cs := (span 0 M).map fun x => decide (x ∈ cs9)) ?hx ?hy ?mu (fun _ => ?_) (fun e => absurd rfl e)
            case hx => exact List.mem_cons_self
            case hy => rw [hkn]; k_extra "mine:mem"
            case mu => k_extra "mine:un8"
            k_steps
            rename IsRange _ _ _ _ _ _ _ _ => rg8
            rename Fr _ _ _ _ => F12; rename News _ _ _ _ => N12
            have kF := Hid.mk F12
            have kN := Hid.mk (cb_drop (news := rcvL w d2 ec2 c ++ ((Dk, LCg.lst kn) :: (rcvL w d1 ec1 c1 ++ Z1))) N12 (by (try simp only [rcvL, List.cons_append, List.nil_append]); k_extra "mine:sub"))
            k_extra "mine:clean"
            clear hab6 hOk
            obtain ⟨F12⟩ := kF
            obtain ⟨N12⟩ := kN
            apply Stop.go
            refine CompSrc.range (n := M) (by rfl) F12 N12 rg8 (range_sm (by k_extra "mine:om") (by k_extra "mine:om") (by k_extra "mine:om") (by k_extra "mine:om")) (by rw [range_sz]; k_extra "mine:om") (by rw [PySem.sizeLine_eq]; k_extra "mine:om") ?_
            intro g8
            refine restU (fun i ys tl => ys = ((span 0 i).map fun x => decide (x ∈ cs9)).map Value.bool) (fun _ => trivial) rfl ?_ ?_
            · rintro i5 ys tl6 hi9 hab6 rfl v it oit C oC D m₂ h9 tk9 E9 hv hoC hx1 F7 N7 off ne
              obtain ⟨t9, rfl⟩ := hv
              generalize hys5 : ((span 0 i5).map fun x => decide (x ∈ cs9)).map Value.bool = ys5 at N7
              dsimp only [rcvL, List.cons_append, List.nil_append] at N7
              k_steps
              rename Fr _ _ _ _ => F8; rename News _ _ _ _ => N8
              apply Stop.go
              have hof : OwnOff ([(it, oit), (C, oC), (D, LCg.lst ys5)] ++ (((Dk, LCg.lst kn) :: (rcvL w d1 ec1 c1 ++ Z1)) ++ tl6)) [d2, ec2] := OwnOff.app (off3_own off (by k_extra "mine:mem") (by k_extra "mine:mem")) (OwnOff.app hOk2 (OwnOff.of_ab (o := rcvL w d2 ec2 c) hab6.app_o))
              (try k_fold)
              refine' Con.use (known_con (c := c) (I := [(it, oit), (C, oC), (D, LCg.lst ys5)] ++ (((Dk, LCg.lst kn) :: (rcvL w d1 ec1 c1 ++ Z1)) ++ tl6)) (hS2.mono ?ms1) ?mx1 hof hde2 (by k_extra "mine:om") (by k_extra "mine:om")) ?mB7 F8 ?mX7 (cb_drop N8 ?mS) ?mT7 ?mk7 ?md7 ?mu7 ?_
              case ms1 => (try simp only [rcvL, List.cons_append, List.nil_append]); k_extra "mine:sub"
              case mx1 => k_extra "mine:mem"
              case mS => (try simp only [rcvL, List.cons_append, List.nil_append]); k_extra "mine:sub"
              k_extra "mine:use8"
              rintro r4 n4 h4 tk4 F5 N5 ⟨tlk, rfl, rfl, abk⟩
              (try dsimp only)
              refine' TEnd.intro tlk F5 N5 ?mS2 ?mA ?mR
              case mS2 => (try simp only [rcvL, List.cons_append, List.nil_append]); k_extra "mine:sub"
              case mA => exact abk.sub (by (try simp only [rcvL, List.cons_append, List.nil_append]); k_extra "mine:sub")
              case mR => rw [hasNum_fold, ← hys5]; exact (boolv_succ (fun x => decide (x ∈ cs9)) i5).symm
            · rintro ys tl6 hab6 rfl
              k_steps
              rename Fr _ _ _ _ => F13; rename News _ _ _ _ => N13
              apply Stop.go
              refine' ne_bools N13 (bs := (span 0 M).map fun x => decide (x ∈ cs9)) (cs := (span 0 M).map fun x => decide (x ∈ cs9)) ?hx ?hy ?mu (fun _ => ?_) (fun e => absurd rfl e)
              case hx => exact List.mem_cons_self
              case hy => rw [hkn]; k_extra "mine:mem"
              case mu => k_extra "mine:un8"
              have kF := Hid.mk F13
              have kN := Hid.mk (cb_drop (news := Z1) N13 (by k_extra "mine:sub"))
              k_extra "mine:clean"
              clear hab6 hOk2 hS1 hS2 hX1 hX2 hkn
              obtain ⟨F14⟩ := kF
              obtain ⟨N14⟩ := kN
              k_steps
              rename Fr _ _ _ _ => F15; rename News _ _ _ _ => N15
              refine nm1 N15 ?_
              rintro D1 rfl
              have hgW : ∀ ws ∈ [(rcvFold cs9).rcv], Good M ws := fun ws h => by rw [List.mem_singleton.mp h]; exact hga
              apply Stop.go
              (try k_fold)
              refine' Con.use (behind_con (I := (D1, listOf [Value.ref rl6].toArray 0) :: Z1) (wss := [(rcvFold cs9).rcv]) (by k_extra "mine:om") ⟨_, _, List.mem_cons_self, .cons (hU.mono ?mr) .nil⟩ hgW) ?mB7 F15 ?mX7 (cb_drop N15 ?mS) ?mT7 ?mk7 ?md7 ?mu7 ?_
              case mr => k_extra "mine:sub"
              case mS => k_extra "mine:sub"
              k_extra "mine:use8"
              rintro r1 n1 h1 tk1 F16 N16 ⟨tq1, sl1, ac1, lv1, nq1, a1, tl1, rfl, rfl, ab1, htq1, hsl1, hlv1, hac1, hsi1⟩
              rw [hsi1.whole_la, hlsm] at hlv1
              have hse1 := hsi1.whole_sent hdr
              cases hlv1 with | @int _ tv1 =>
              have hDB : DatIn ((D1, listOf [Value.ref rl6].toArray 0) :: Z1 ++ tl1) (.ref tq1) (datB a1) := by
                refine DatIn.tuple (List.mem_append_right _ htq1) (.cons (hsl1.mono ?_).dat (.cons ?_ (.cons hac1.dat .nil)))
                · k_extra "mine:sub"
                · rw [hsi1.whole_la, hlsm]; exact .int _ _
              dsimp only [List.cons_append] at N16
              (try dsimp only)
              k_steps
              rename Fr _ _ _ _ => F17; rename News _ _ _ _ => N17
              obtain ⟨wa, wsa, hwa, hwsa, hrwa⟩ : ∃ wa wsa, wv8[v10.toNat]? = some (.ref wa) ∧ wss[v10.toNat]? = some wsa ∧ RngIn Z1 wa wsa := by
                have hv : wv8[v10.toNat]? = some (wv8[v10.toNat]'(by k_extra "mine:om")) := List.getElem?_eq_getElem (by k_extra "mine:om")
                obtain ⟨b, ws, e1, e2, e3⟩ := hV.get hv
                exact ⟨b, ws, by rw [hv, e1], e2, e3⟩
              apply Stop.go
              refine' ne_dat N17 hsl1.dat ?s1 (DatIn.list ?m2 (ints_dat hcl)) (fun p h => h) (datI_ok8 _) (datI_ok8 _) ?mu (fun _ => ?_) (fun e => absurd (datI_iff' hse1) e)
              case s1 => k_extra "mine:sub"
              case m2 => k_extra "mine:mem"
              case mu => k_extra "mine:un8"
              k_steps
              rename Fr _ _ _ _ => F18; rename News _ _ _ _ => N18
              refine nm1 N18 ?_
              rintro D2 rfl
              have hmW : (rcvFold cs9).rcv ∈ wss ++ [wsa, (rcvFold cs9).rcv] := List.mem_append_right _ (.tail _ (.head _))
              have hall : ∀ v ∈ wss ++ [wsa, (rcvFold cs9).rcv], Good M v ∧ ∀ x, hasNum v x = true → x ∈ cs9 := fun v hv => by
                rcases List.mem_append.mp hv with hv | hv
                · exact hwg v hv
                · rcases List.mem_cons.mp hv with rfl | hv
                  · exact hwg _ (List.mem_of_getElem? hwsa)
                  · rw [List.mem_singleton.mp hv]; exact ⟨hga, whole_sub cs9⟩
              have hw2 : WdsIn Z1 (wv8 ++ [Value.ref wa, Value.ref rl6]) (wss ++ [wsa, (rcvFold cs9).rcv]) := hV.append (.cons hrwa (.cons hU .nil))
              apply Stop.go
              (try k_fold)
              refine' Con.use (behind_con (I := (D2, listOf (wv8 ++ [Value.ref wa, Value.ref rl6]).toArray 0) :: (D1, listOf [Value.ref rl6].toArray 0) :: (Z1 ++ tl1)) (by k_extra "mine:om") ⟨_, _, List.mem_cons_self, hw2.mono ?mr⟩ (fun v hv => (hall v hv).1)) ?mB7 F18 ?mX7 (cb_drop N18 ?mS) ?mT7 ?mk7 ?md7 ?mu7 ?_
              case mr => k_extra "mine:sub"
              case mS => k_extra "mine:sub"
              k_extra "mine:use8"
              rintro r2 n2 h2 tk2 F19 N19 ⟨tq2, sl2, ac2, lv2, nq2, a2, tl2, rfl, rfl, ab2, htq2, hsl2, hlv2, hac2, hsi2⟩
              have hDC := behind_dat htq2 hsl2 hlv2 hac2
              have heq2 : a2 = a1 := hsi2.uniq hsi1 (told_whole hmW fun v hv => (hall v hv).2)
              dsimp only [List.cons_append] at N19
              (try dsimp only)
              k_steps
              rename Fr _ _ _ _ => F20; rename News _ _ _ _ => N20
              apply Stop.go
              refine' ne_dat N20 hDC ?s1 hDB ?s2 (datB_ok _) (datB_ok _) ?mu (fun _ => ?_) (fun e => absurd (datB_iff heq2) e)
              case s1 => (try simp only [List.cons_append]); k_extra "mine:sub"
              case s2 => (try simp only [List.cons_append]); k_extra "mine:sub"
              case mu => k_extra "mine:un8"
              have kF := Hid.mk F20
              have kN := Hid.mk (cb_drop (news := (D1, listOf [Value.ref rl6].toArray 0) :: (Z1 ++ tl1)) N20 (by k_extra "mine:sub"))
              k_extra "mine:clean"
              clear ab2 hDC htq2 hsl2 hlv2 hac2 hsi2 hw2 hrwa
              obtain ⟨F21⟩ := kF
              obtain ⟨N21⟩ := kN
              k_steps
              rename Fr _ _ _ _ => F22; rename News _ _ _ _ => N22
              refine nm1 N22 ?_
              rintro D3 rfl
              have hall3 : ∀ v ∈ (rcvFold cs9).rcv :: wss.reverse, Good M v ∧ ∀ x, hasNum v x = true → x ∈ cs9 := fun v hv => by
                rcases List.mem_cons.mp hv with rfl | hv
                · exact ⟨hga, whole_sub cs9⟩
                · exact hwg v (List.mem_reverse.mp hv)
              have hw3 : WdsIn Z1 ([Value.ref rl6] ++ wv8.reverse) ((rcvFold cs9).rcv :: wss.reverse) := .cons hU hV.reverse
              apply Stop.go
              (try k_fold)
              refine' Con.use (behind_con (I := (D3, listOf ([Value.ref rl6] ++ wv8.reverse).toArray 0) :: (D1, listOf [Value.ref rl6].toArray 0) :: (Z1 ++ tl1)) (by k_extra "mine:om") ⟨_, _, List.mem_cons_self, hw3.mono ?mr⟩ (fun v hv => (hall3 v hv).1)) ?mB7 F22 ?mX7 (cb_drop N22 ?mS) ?mT7 ?mk7 ?md7 ?mu7 ?_
              case mr => k_extra "mine:sub"
              case mS => k_extra "mine:sub"
              k_extra "mine:use8"
              rintro r3 n3 h3 tk3 F23 N23 ⟨tq3, sl3, ac3, lv3, nq3, a3, tl3, rfl, rfl, ab3, htq3, hsl3, hlv3, hac3, hsi3⟩
              have hDE := behind_dat htq3 hsl3 hlv3 hac3
              have heq3 : a3 = a1 := hsi3.uniq hsi1 (told_whole List.mem_cons_self fun v hv => (hall3 v hv).2)
              dsimp only [List.cons_append] at N23
              (try dsimp only)
              k_steps
              rename Fr _ _ _ _ => F24; rename News _ _ _ _ => N24
              apply Stop.go
              refine' eq_dat N24 hDE ?s1 hDB ?s2 (datB_ok _) (datB_ok _) ?mu (fun _ => ?_) (fun e => absurd (datB_iff heq3) e)
              case s1 => (try simp only [List.cons_append]); k_extra "mine:sub"
              case s2 => (try simp only [List.cons_append]); k_extra "mine:sub"
              case mu => k_extra "mine:un8"
              have kF := Hid.mk F24
              have kN := Hid.mk (cb_drop (news := Z1) N24 (by k_extra "mine:sub"))
              k_extra "mine:clean"
              clear ab3 hDE htq3 hsl3 hlv3 hac3 hsi3 hw3
              obtain ⟨F25⟩ := kF
              obtain ⟨N25⟩ := kN
              k_steps
              rename Fr _ _ _ _ => F26; rename News _ _ _ _ => N26
              refine nm1 N26 ?_
              rintro D4 rfl
              apply Stop.go
              (try k_fold)
              refine' Con.use (cut_con (I := (D4, listOf wv8.reverse.toArray 0) :: Z1) (by k_extra "mine:om") ⟨_, _, List.mem_cons_self, hV.reverse.mono ?mr⟩ (fun v hv => (hwg v (List.mem_reverse.mp hv)).1) ?mz1 (by k_extra "mine:om")) ?mB7 F26 ?mX7 (cb_drop N26 ?mS) ?mT7 ?mk7 ?md7 ?mu7 ?_
              case mr => k_extra "mine:sub"
              case mS => k_extra "mine:sub"
              case mz1 => rw [List.length_reverse]; k_extra "mine:om"
              k_extra "mine:use8"
              rintro r4 n4 h4 tk4 F27 N27 ⟨tl4, rfl, rfl, ab4⟩
              dsimp only [List.cons_append] at N27
              (try dsimp only)
              k_steps)
end
end Mine
end

theorem PySem.Challenge.cw_sj0118_01_holds : PySem.Challenge.rw_sj0118_01.Holds := by
  exact Mine.top0
