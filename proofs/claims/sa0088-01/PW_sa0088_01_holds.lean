import PyProof.Rows.All
import Wide.All
import OpenK.AllK
import Wide.FinOn
import KE.KStateDown
import Lean
import PySem.Challenge.RW_sa0088_01
open PySem PySem.W PyProof.Rows PySem.Calls
set_option Elab.async false
set_option linter.unusedSimpArgs false
set_option linter.unusedVariables false
set_option maxRecDepth 100000
set_option genSizeOf false
set_option genInjectivity false
namespace Mine
-- Hd
section
-- the tool writes the text's objects out (frag.heap_1); the theorem itself says nothing
local macro_rules | `(tactic| o_head $_) => `(tactic| assumption)
set_option maxRecDepth 100000 in
theorem frag (h : PySem.Challenge.rw_sa0088_01.row.Holds) : PySem.Challenge.rw_sa0088_01.row.Holds := by k_head
end
set_option maxRecDepth 100000 in
noncomputable def K : Params → Frag := fun P => (fun (l : Frag) (_ : l = l) (_ : decide (Str.ofString "a" = Str.ofString "b") = false) => l) _ (@rfl Frag (_ :: _ :: _ :: _ :: _ :: _ :: _ :: _ :: _ :: _ :: _ :: _ :: _ :: _ :: _ :: _ :: _ :: _ :: _ :: _ :: _ :: _ :: _ :: _ :: _ :: _ :: _ :: _ :: _ :: _ :: _ :: _ :: _ :: _ :: _ :: _ :: _ :: _ :: _ :: _ :: _ :: _ :: _ :: _ :: _ :: _ :: _ :: _ :: _ :: _ :: _ :: _ :: _ :: _ :: _ :: _ :: _ :: _ :: _ :: _ :: _ :: _ :: _ :: _ :: _ :: _ :: _ :: _ :: _ :: _ :: _ :: _ :: _ :: _ :: _ :: _ :: _ :: _ :: _ :: _ :: _ :: _ :: _ :: _ :: _ :: _ :: _ :: _ :: _ :: _ :: _ :: _ :: _ :: _ :: _ :: _ :: _ :: _ :: _ :: _ :: _ :: _ :: _ :: _ :: _ :: _ :: _ :: _ :: _ :: _ :: _ :: _ :: _ :: _ :: _ :: _ :: _ :: _ :: _ :: _ :: _ :: _ :: _ :: _ :: _ :: _ :: _ :: _ :: _ :: _ :: _ :: _ :: _ :: _ :: _ :: _ :: _ :: _ :: _ :: _ :: _ :: _ :: _ :: _ :: _ :: _ :: []) : _ = frag.heap_1 P) (by decide +kernel)
noncomputable def Kas : List Addr := nat_lit 2 :: nat_lit 3 :: nat_lit 15 :: nat_lit 22 :: nat_lit 24 :: nat_lit 25 :: nat_lit 27 :: nat_lit 28 :: nat_lit 29 :: nat_lit 30 :: nat_lit 31 :: nat_lit 32 :: nat_lit 35 :: nat_lit 37 :: nat_lit 38 :: nat_lit 40 :: nat_lit 41 :: nat_lit 42 :: nat_lit 44 :: nat_lit 45 :: nat_lit 47 :: nat_lit 48 :: nat_lit 49 :: nat_lit 51 :: nat_lit 52 :: nat_lit 54 :: nat_lit 55 :: nat_lit 56 :: nat_lit 58 :: nat_lit 59 :: nat_lit 61 :: nat_lit 62 :: nat_lit 63 :: nat_lit 65 :: nat_lit 66 :: nat_lit 68 :: nat_lit 69 :: nat_lit 70 :: nat_lit 73 :: nat_lit 74 :: nat_lit 75 :: nat_lit 77 :: nat_lit 78 :: nat_lit 80 :: nat_lit 81 :: nat_lit 82 :: nat_lit 85 :: nat_lit 86 :: nat_lit 87 :: nat_lit 89 :: nat_lit 90 :: nat_lit 92 :: nat_lit 93 :: nat_lit 94 :: nat_lit 96 :: nat_lit 97 :: nat_lit 99 :: nat_lit 100 :: nat_lit 101 :: nat_lit 103 :: nat_lit 104 :: nat_lit 106 :: nat_lit 107 :: nat_lit 108 :: nat_lit 110 :: nat_lit 111 :: nat_lit 113 :: nat_lit 114 :: nat_lit 115 :: nat_lit 117 :: nat_lit 118 :: nat_lit 120 :: nat_lit 121 :: nat_lit 122 :: nat_lit 124 :: nat_lit 125 :: nat_lit 127 :: nat_lit 128 :: nat_lit 129 :: nat_lit 131 :: nat_lit 132 :: nat_lit 134 :: nat_lit 135 :: nat_lit 136 :: nat_lit 138 :: nat_lit 139 :: nat_lit 141 :: nat_lit 142 :: nat_lit 143 :: nat_lit 145 :: nat_lit 146 :: nat_lit 148 :: nat_lit 149 :: nat_lit 150 :: nat_lit 152 :: nat_lit 153 :: nat_lit 155 :: nat_lit 156 :: nat_lit 157 :: nat_lit 159 :: nat_lit 160 :: nat_lit 162 :: nat_lit 163 :: nat_lit 164 :: nat_lit 166 :: nat_lit 167 :: nat_lit 169 :: nat_lit 170 :: nat_lit 171 :: nat_lit 172 :: nat_lit 173 :: nat_lit 174 :: nat_lit 175 :: nat_lit 176 :: nat_lit 177 :: nat_lit 178 :: nat_lit 179 :: nat_lit 180 :: nat_lit 181 :: nat_lit 182 :: nat_lit 183 :: nat_lit 184 :: nat_lit 185 :: nat_lit 186 :: nat_lit 188 :: nat_lit 189 :: nat_lit 191 :: nat_lit 192 :: nat_lit 193 :: nat_lit 195 :: nat_lit 196 :: nat_lit 198 :: nat_lit 199 :: nat_lit 200 :: nat_lit 202 :: nat_lit 203 :: nat_lit 205 :: nat_lit 206 :: nat_lit 207 :: nat_lit 209 :: nat_lit 210 :: nat_lit 212 :: nat_lit 213 :: nat_lit 214 :: nat_lit 217 :: nat_lit 218 :: []
section
local macro_rules | `(tactic| k_head) => `(tactic| o_head (kHook K Kas (fun _ => by kernel_rfl)))
set_option maxRecDepth 100000 in
set_option maxHeartbeats 8000000 in
open_top hd for PySem.Challenge.rw_sa0088_01
end
-- Base
noncomputable abbrev lse : List Str := looseW hd.view_39 [Str.ofString "_law_fields"]
abbrev prg : Program := PySem.Challenge.rw_sa0088_01.row.prog

/-- what stands around a call: a frame of a def below, the written part, the top -/
structure Amb (w : World) (mean : ExcName → Option Value) (mg mb : Str → Option Value) (A : Around) (s : Shared) (d : Nat) : Prop where
  ex : ∃ (A₀ : Around) (base h₀ : Heap) (outer : List Env) (L : Addr) (m : Str → Option Value) (env : Env),
    Below A₀ base outer h₀ ∧ Fr h₀ L s.heap m ∧ A.frames = some (env :: outer) ∧ env.frame = some L ∧ env.scope.kind = .function
  k : (K w.params).In s.heap
  t : Top hd.view_39 lse mean mg mb s.heap
  hh : A.handled = none
  dp : A.depth + d < recursionLimit
  un : A.units + 8 * d < cLine

/-- a contract: the call of f on vs, the facts of the arguments at the heap, what comes back -/
noncomputable def Spec (d : Nat) (f : Addr) (vs : List Value) (pre : Heap → Prop) (post : Heap → Heap → Value → Prop) : Prop :=
  ∀ (w : World) (mean : ExcName → Option Value) (mg mb : Str → Option Value) (A : Around) (s : Shared) (Q : Value → Shared → Prop) (E : Value → Shared → Prop),
    Amb w mean mg mb A s d → pre s.heap →
    (∀ r h' tk, s.heap.StaysIn h' → post s.heap h' r → Q r { s with heap := h', toks := tk }) →
    wpAny (model PySem.Challenge.rw_sa0088_01.row.prog w) A (call (.ref f) vs) Q E s

/-- the end of a def's body: the frame stands on the heap that the call found -/
noncomputable def Fin (g : Heap) (s : Shared) (post : Heap → Heap → Value → Prop) (v : Value) (s' : Shared) : Prop :=
  ∃ h' tk, s' = { s with heap := h', toks := tk } ∧ g.StaysIn h' ∧ post g h' v

section
variable {d : Nat}
  {name qual : Str} {params : Arguments} {body : List Stmt} {scope : Scope} {dV kV doc pm cdv ct oc : Value} {an od : Option Addr} {osl : Array (Option Value)} {f : Addr} {vs : List Value} {binds : List (Str × Value)}
  {pre : Heap → Prop} {post : Heap → Heap → Value → Prop}

theorem spec_of
    (ho : ∀ P, (K P).lookup f = some ⟨oc, od, .func (fnOf name qual params body scope dV kV doc pm an cdv ct), osl⟩) (hcd : ∀ P, codeIn (K P) cdv qual = true)
    (hbind : ∀ s, BindsTo s (fnOf name qual params body scope dV kV doc pm an cdv ct) ⟨vs, []⟩ binds) (hloc : ∀ y ∈ binds, scope.names.lookup y.1 = some .local)
    (h : ∀ (w : World) (mean : ExcName → Option Value) (mg mb : Str → Option Value) (dp un : Nat) (gd : Option (List Code)) (A₀ : Around) (base g : Heap) (outer : List Env) (L' : Addr) (h₁ : Heap) (s : Shared) (tk : Nat),
      dp + d ≤ recursionLimit → un + 8 * d ≤ cLine + 3 → pre g →
      Fr g L' h₁ (fun y => binds.reverse.lookup y) → News g L' h₁ [] → Below A₀ base outer g → (K w.params).In g → Top hd.view_39 lse mean mg mb g →
      wpAny (model PySem.Challenge.rw_sa0088_01.row.prog w) { handled := none, depth := dp, frames := some (envOf qual scope L' f cdv :: outer), guards := gd, units := un } (execs body (envOf qual scope L' f cdv))
        (fun fl s' => Fin g s post (match fl with | .ret v => v | _ => .none) s')
        (fun _ _ => False)
        { s with heap := h₁, toks := tk })
    (hd1 : 1 ≤ d)
    (hcell : ∀ x ∈ scope.names, x.2 ≠ .cell) (hco : scope.isCoroutine = false) (hgen : scope.isGenerator = false) (hk : scope.kind = .function) :
    Spec d f vs pre post := by
  intro w mean mg mb A s Q E amb hpre ret
  obtain ⟨A₀, base, h₀, outer, L, m, env, B, F, hA, hf, hke⟩ := amb.ex
  obtain ⟨FG, BG, st, lv⟩ := groundX (news := []) (R := fun _ _ => True) B F News.nil hA hf hke
  refine wpAny_call ?_
  refine codeAny_call_def (fd := fnOf name qual params body scope dV kV doc pm an cdv ct) (body := body) (binds := binds) ?_ (amb.k _ _ (ho _)) rfl amb.t.nolimit (codeRec_of amb.k (hcd _)) rfl (hbind s) hcell hloc (fun h₁ hns hk₁ => ?_) hco hgen hk
  · have := amb.dp; omega
  have e := h w mean mg mb (A.depth + 1) (A.units + 3) A.guards A base s.heap (env :: outer) s.heap.objs.size h₁ s (s.toks + binds.length) (by have := amb.dp; omega) (by have := amb.un; omega) hpre
    ⟨hns, hk₁, Nat.le_refl _⟩ (fun _ hp => nomatch hp) BG amb.k amb.t
  have eA : A.deeper (callEnv (fnOf name qual params body scope dV kV doc pm an cdv ct) s.heap.objs.size f) = { handled := none, depth := A.depth + 1, frames := some (envX qual scope s.heap.objs.size f cdv [] :: env :: outer), guards := A.guards, units := A.units + 3 } := by
    have h1 := amb.hh
    obtain ⟨ha, de, fr, gu, un⟩ := A
    dsimp only at h1 hA
    subst h1 hA
    rfl
  rw [eA]
  refine wpAny_mono e (fun fl s' hl => ?_) (fun _ _ x => x.elim)
  obtain ⟨h', tk, rfl, hs, hp⟩ := hl
  exact ret _ _ _ hs hp
end
-- Base2
abbrev LO (a : Addr) (v : List Value) (k : Nat) : Addr × Obj := (a, W.listOf (List.toArray v) k)
noncomputable def LI (h : Heap) (a : Addr) (ns : List Int) : Prop := ∃ vs : List Value, h.IsList a vs.toArray ∧ IntsAre vs ns
noncomputable def NewL (ns : List Int) (g h' : Heap) (r : Value) : Prop := ∃ a vs n, r = .ref a ∧ g.get? a = none ∧ h'.get? a = some (W.listOf (List.toArray vs) n) ∧ IntsAre vs ns
noncomputable def IntR (i : Int) (_g _h' : Heap) (r : Value) : Prop := ∃ t, r = .int i t

theorem LI.of {h : Heap} {a : Addr} {vs : List Value} {ns : List Int} (hl : h.IsList a vs.toArray) (hi : IntsAre vs ns) : LI h a ns := ⟨vs, hl, hi⟩

section
variable {g : Heap} {a b c d e : Addr} {xs ys zs us ws : List Int} {C : Prop}
theorem li1 (h : LI g a xs) (k : ∀ vs : List Value, g.IsList a vs.toArray → IntsAre vs xs → C) : C := h.elim fun vs q => k vs q.1 q.2
theorem li2 (h : LI g a xs ∧ LI g b ys) (k : ∀ vs : List Value, g.IsList a vs.toArray → IntsAre vs xs → ∀ vs2 : List Value, g.IsList b vs2.toArray → IntsAre vs2 ys → C) : C := li1 h.1 fun v p q => li1 h.2 (k v p q)
theorem li3 (h : LI g a xs ∧ LI g b ys ∧ LI g c zs) (k : ∀ vs : List Value, g.IsList a vs.toArray → IntsAre vs xs → ∀ vs2 : List Value, g.IsList b vs2.toArray → IntsAre vs2 ys → ∀ vs3 : List Value, g.IsList c vs3.toArray → IntsAre vs3 zs → C) : C := li1 h.1 fun v p q => li2 h.2 (k v p q)
theorem li5 (h : LI g a xs ∧ LI g b ys ∧ LI g c zs ∧ LI g d us ∧ LI g e ws) (k : ∀ vs : List Value, g.IsList a vs.toArray → IntsAre vs xs → ∀ vs2 : List Value, g.IsList b vs2.toArray → IntsAre vs2 ys → ∀ vs3 : List Value, g.IsList c vs3.toArray → IntsAre vs3 zs → ∀ vs4 : List Value, g.IsList d vs4.toArray → IntsAre vs4 us → ∀ vs5 : List Value, g.IsList e vs5.toArray → IntsAre vs5 ws → C) : C := li2 ⟨h.1, h.2.1⟩ fun v p q v2 p2 q2 => li3 h.2.2 (k v p q v2 p2 q2)
end
noncomputable def AllNe (d : Nat) : List (Addr × Obj) → Prop
  | [] => True
  | [p] => @Ne Nat p.1 d
  | p :: q :: r => @Ne Nat p.1 d ∧ AllNe d (q :: r)
theorem allNe_of {d : Addr} : ∀ {l : List (Addr × Obj)}, (∀ p ∈ l, p.1 ≠ d) → AllNe d l
  | [], _ => trivial
  | [p], h => h p (.head _)
  | p :: q :: r, h => ⟨h p (.head _), allNe_of (l := q :: r) fun q hq => h q (.tail _ hq)⟩
theorem ne_in {l : List (Addr × Obj)} {a I : Addr} {o : Obj} (h : ∀ p ∈ l, p.1 ≠ a) (hm : (I, o) ∈ l) : a ≠ I := (h _ hm).symm
theorem roomD {dp d D L : Nat} (h : dp + D ≤ L) (k : d < D) : dp + d < L := by omega
theorem roomU {un d D c : Nat} (h : un + 8 * D ≤ c + 3) (k : d < D) : un + 8 * d < c := by omega

section
variable {w : World} {mean : ExcName → Option Value} {mg mb : Str → Option Value} {A A₀ : Around} {base h₀ : Heap} {outer : List Env} {L : Addr} {m : Str → Option Value} {env : Env} {s : Shared} {news : List (Addr × Obj)}
  {d : Nat} {f : Addr} {vs : List Value} {pre : Heap → Prop} {post : Heap → Heap → Value → Prop} {Q : Value → Shared → Prop} {E : Value → Shared → Prop}
theorem use_spec (S : Spec d f vs pre post) (B : Below A₀ base outer h₀) (F : Fr h₀ L s.heap m) (X : (K w.params).In h₀) (N : News h₀ L s.heap news) (T : Top hd.view_39 lse mean mg mb h₀)
    (hA : A.frames = some (env :: outer)) (hf : env.frame = some L) (hk : env.scope.kind = .function) (hh : A.handled = none) (hdp : A.depth + d < recursionLimit) (hun : A.units + 8 * d < cLine) (hp : pre s.heap)
    (ret : ∀ r h' tk, post s.heap h' r → s.heap.StaysIn h' → Fr h₀ L h' m → News h₀ L h' news → Q r { s with heap := h', toks := tk }) :
    wpAny (model PySem.Challenge.rw_sa0088_01.row.prog w) A (call (.ref f) vs) Q E s := by
  refine S w mean mg mb A s Q E ⟨⟨A₀, base, h₀, outer, L, m, env, B, F, hA, hf, hk⟩, X.keeps F.keep, T.keeps F.keep, hh, hdp, hun⟩ hp fun r h' tk hs hpost => ?_
  obtain ⟨oL, es, ep, hL, r'⟩ := F.ns
  exact ret r h' tk hpost hs ⟨⟨oL, es, ep, hs _ _ hL, r'⟩, fun b o e => hs _ _ (F.keep b o e), F.above⟩ fun p hp => ⟨hs _ _ (N p hp).1, (N p hp).2⟩
theorem use_list {ns : List Int} (S : Spec d f vs pre (NewL ns)) (B : Below A₀ base outer h₀) (F : Fr h₀ L s.heap m) (X : (K w.params).In h₀) (N : News h₀ L s.heap news) (T : Top hd.view_39 lse mean mg mb h₀)
    (hA : A.frames = some (env :: outer)) (hf : env.frame = some L) (hk : env.scope.kind = .function) (hh : A.handled = none) (hdp : A.depth + d < recursionLimit) (hun : A.units + 8 * d < cLine) (hp : pre s.heap)
    (ret : ∀ a vs n h' tk, Fr h₀ L h' m → News h₀ L h' (LO a vs n :: news) → (∀ p ∈ news, p.1 ≠ a) → IntsAre vs ns → Q (.ref a) { s with heap := h', toks := tk }) :
    wpAny (model PySem.Challenge.rw_sa0088_01.row.prog w) A (call (.ref f) vs) Q E s := by
  refine use_spec S B F X N T hA hf hk hh hdp hun hp fun r h' tk hpost hs F' N' => ?_
  obtain ⟨a, us, n, rfl, hn, ha, hi⟩ := hpost
  have nLa : a ≠ L := by
    intro e
    obtain ⟨oL, es, ep, hL, r'⟩ := F.ns
    rw [e, hL] at hn; cases hn
  refine ret a us n h' tk F' (fun p hp => ?_) (fun p hp e => ?_) hi
  · rcases List.mem_cons.mp hp with rfl | hp
    · refine ⟨ha, nLa, ?_⟩
      show h₀.get? a = none
      cases q : h₀.get? a with
      | none => rfl
      | some o => have := F.keep _ _ q; rw [hn] at this; cases this
    · exact N' p hp
  · have := (N p hp).1; rw [e, hn] at this; cases this
theorem use_int {i : Int} (S : Spec d f vs pre (IntR i)) (B : Below A₀ base outer h₀) (F : Fr h₀ L s.heap m) (X : (K w.params).In h₀) (N : News h₀ L s.heap news) (T : Top hd.view_39 lse mean mg mb h₀)
    (hA : A.frames = some (env :: outer)) (hf : env.frame = some L) (hk : env.scope.kind = .function) (hh : A.handled = none) (hdp : A.depth + d < recursionLimit) (hun : A.units + 8 * d < cLine) (hp : pre s.heap)
    (ret : ∀ t h' tk, Fr h₀ L h' m → News h₀ L h' news → Q (.int i t) { s with heap := h', toks := tk }) :
    wpAny (model PySem.Challenge.rw_sa0088_01.row.prog w) A (call (.ref f) vs) Q E s := by
  refine use_spec S B F X N T hA hf hk hh hdp hun hp fun r h' tk hpost hs F' N' => ?_
  obtain ⟨t, rfl⟩ := hpost
  exact ret t h' tk F' N'
end

section
variable {g h' : Heap} {L' a : Addr} {m' : Str → Option Value} {s : Shared} {news : List (Addr × Obj)} {vs : List Value} {n : Nat} {ns ms : List Int} {tk : Nat} {gens : Array GenState} {drawn : Drawn} {os : OsState}
theorem fin_list (F : Fr g L' h' m') (N : News g L' h' news) (hm : (a, W.listOf (List.toArray vs) n) ∈ news) (hi : IntsAre vs ms) (e : ms = ns) : Fin g s (NewL ns) (.ref a) ⟨h', s.gens, s.drawn, tk, s.os⟩ :=
  ⟨h', tk, rfl, F.keep, a, vs, n, rfl, (N _ hm).2.2, (N _ hm).1, e ▸ hi⟩
theorem fin_int {i j : Int} {t : Tok} (F : Fr g L' h' m') (e : i = j) : Fin g s (IntR j) (.int i t) ⟨h', s.gens, s.drawn, tk, s.os⟩ :=
  ⟨h', tk, rfl, F.keep, t, e ▸ rfl⟩
end
-- BaseC
section
variable {d : Nat}
  {name qual : Str} {params : Arguments} {body : List Stmt} {scope : Scope} {dV kV doc pm cdv ct oc : Value} {an od : Option Addr} {osl : Array (Option Value)} {f : Addr} {vs : List Value} {binds : List (Str × Value)}
  {pre : Heap → Prop} {post : Heap → Heap → Value → Prop}

/-- as spec_of, for a def whose locals are captured -/
theorem spec_ofC
    (ho : ∀ P, (K P).lookup f = some ⟨oc, od, .func (fnOf name qual params body scope dV kV doc pm an cdv ct), osl⟩) (hcd : ∀ P, codeIn (K P) cdv qual = true)
    (hbind : ∀ s, BindsTo s (fnOf name qual params body scope dV kV doc pm an cdv ct) ⟨vs, []⟩ binds)
    (hkind : (binds.all fun y => scope.names.lookup y.1 == some .local || scope.names.lookup y.1 == some .cell) = true)
    (hnd : ((cellsFrom 0 scope.names []).map (·.1)).Nodup)
    (h : ∀ (w : World) (mean : ExcName → Option Value) (mg mb : Str → Option Value) (dp un : Nat) (gd : Option (List Code)) (A₀ : Around) (base g : Heap) (outer : List Env) (L' : Addr) (h₁ : Heap) (s : Shared) (tk : Nat) (cells : List (Addr × Obj)),
      dp + d ≤ recursionLimit → un + 8 * d ≤ cLine + 3 → pre g →
      Fr g L' h₁ (bindL (envOfC qual scope L' f cdv).kindOf binds fun _ => none) → News g L' h₁ cells → CellsAre (bindC (envOfC qual scope L' f cdv).kindOf binds fun _ => none) (cellsFrom (L' + 1) scope.names []) cells →
      Below A₀ base outer g → (K w.params).In g → Top hd.view_39 lse mean mg mb g →
      wpAny (model PySem.Challenge.rw_sa0088_01.row.prog w) { handled := none, depth := dp, frames := some (envOfC qual scope L' f cdv :: outer), guards := gd, units := un } (execs body (envOfC qual scope L' f cdv))
        (fun fl s' => Fin g s post (match fl with | .ret v => v | _ => .none) s')
        (fun _ _ => False)
        { s with heap := h₁, toks := tk })
    (hd1 : 1 ≤ d)
    (hco : scope.isCoroutine = false) (hgen : scope.isGenerator = false) (hk : scope.kind = .function) :
    Spec d f vs pre post := by
  intro w mean mg mb A s Q E amb hpre ret
  obtain ⟨A₀, base, h₀, outer, L, m, env, B, F, hA, hf, hke⟩ := amb.ex
  obtain ⟨FG, BG, st, lv⟩ := groundX (news := []) (R := fun _ _ => True) B F News.nil hA hf hke
  refine wpAny_call ?_
  refine codeAny_call_function (fd := fnOf name qual params body scope dV kV doc pm an cdv ct) (body := body) ?_ (amb.k _ _ (ho _)) rfl hco hgen rfl (codeRec_of amb.k (hcd _)) (hbind s _ _ _ _ ?_)
  · have := amb.dp; omega
  refine wpAny_newFunctionEnv_cells hk (kindsX hkind _) fun env' he s' x => ?_
  subst he
  refine ⟨amb.t.nolimit.keeps x.toInCall.keep, codeAny_func ?_⟩
  obtain ⟨h₁, tk, rfl, _⟩ := x.done
  have hk₁ := x.toInCall.keep
  obtain ⟨cells, NC, Y⟩ := Cl.news (h₀ := s.heap) (Nat.le_refl _) fun n c hm => ⟨x.cell n c (lookup_of_mem_nodup (cellsFrom_names scope.names 0 (s.heap.objs.size + 1) [] [] rfl ▸ hnd) hm), x.above n c hm⟩
  have e := h w mean mg mb (A.depth + 1) (A.units + 3) A.guards A base s.heap (env :: outer) s.heap.objs.size h₁ s tk cells (by have := amb.dp; omega) (by have := amb.un; omega) hpre
    ⟨x.toInCall.ns, hk₁, Nat.le_refl _⟩ NC Y BG amb.k amb.t
  have eA : ∀ ev, A.deeper ev = { handled := none, depth := A.depth + 1, frames := some (ev :: env :: outer), guards := A.guards, units := A.units + 3 } := by
    intro ev
    have h1 := amb.hh
    obtain ⟨ha, de, fr, gu, un⟩ := A
    dsimp only at h1 hA
    subst h1 hA
    rfl
  rw [eA]
  refine wpAny_mono e (fun fl s' hl => ?_) (fun _ _ x => x.elim)
  obtain ⟨h', tk, rfl, hs, hp⟩ := hl
  exact ret _ _ _ hs hp
end
-- Base3
abbrev tup (l : List Value) : Obj := { cls := .type "tuple", data := .seq l.toArray }
abbrev TwoO (c a b : Addr) : Addr × Obj := (c, { cls := .type "tuple", data := .seq #[.ref a, .ref b] })
abbrev TriO (c a b d : Addr) : Addr × Obj := (c, { cls := .type "tuple", data := .seq #[.ref a, .ref b, .ref d] })
/-- a new pair of new lists -/
noncomputable def NewP (xs ys : List Int) (g h' : Heap) (r : Value) : Prop := ∃ c a b va vb na nb, r = .ref c ∧ g.get? c = none ∧ g.get? a = none ∧ g.get? b = none ∧
  h'.get? c = some { cls := .type "tuple", data := .seq #[.ref a, .ref b] } ∧ h'.get? a = some (W.listOf (List.toArray va) na) ∧ h'.get? b = some (W.listOf (List.toArray vb) nb) ∧ IntsAre va xs ∧ IntsAre vb ys
/-- a new triple of lists, each new -/
noncomputable def NewT (xs ys zs : List Int) (g h' : Heap) (r : Value) : Prop := ∃ c a b d va vb vd na nb nd, r = .ref c ∧ g.get? c = none ∧ g.get? a = none ∧ g.get? b = none ∧ g.get? d = none ∧
  h'.get? c = some { cls := .type "tuple", data := .seq #[.ref a, .ref b, .ref d] } ∧ h'.get? a = some (W.listOf (List.toArray va) na) ∧ h'.get? b = some (W.listOf (List.toArray vb) nb) ∧ h'.get? d = some (W.listOf (List.toArray vd) nd) ∧ IntsAre va xs ∧ IntsAre vb ys ∧ IntsAre vd zs
section
variable {w : World} {mean : ExcName → Option Value} {mg mb : Str → Option Value} {A A₀ : Around} {base h₀ : Heap} {outer : List Env} {L : Addr} {m : Str → Option Value} {env : Env} {s : Shared} {news : List (Addr × Obj)}
  {d : Nat} {f : Addr} {vs : List Value} {pre : Heap → Prop} {post : Heap → Heap → Value → Prop} {Q : Value → Shared → Prop} {E : Value → Shared → Prop}
theorem new_facts {h : Heap} {a : Addr} (F : Fr h₀ L h m) (N : News h₀ L h news) (hn : h.get? a = none) : a ≠ L ∧ h₀.get? a = none ∧ ∀ p ∈ news, p.1 ≠ a := by
  refine ⟨?_, ?_, fun p hp e => ?_⟩
  · intro e
    obtain ⟨oL, es, ep, hL, r'⟩ := F.ns
    rw [e, hL] at hn; cases hn
  · cases q : h₀.get? a with
    | none => rfl
    | some o => have := F.keep _ _ q; rw [hn] at this; cases this
  · have := (N p hp).1; rw [e, hn] at this; cases this
theorem use_pair {xs ys : List Int} (S : Spec d f vs pre (NewP xs ys)) (B : Below A₀ base outer h₀) (F : Fr h₀ L s.heap m) (X : (K w.params).In h₀) (N : News h₀ L s.heap news) (T : Top hd.view_39 lse mean mg mb h₀)
    (hA : A.frames = some (env :: outer)) (hf : env.frame = some L) (hk : env.scope.kind = .function) (hh : A.handled = none) (hdp : A.depth + d < recursionLimit) (hun : A.units + 8 * d < cLine) (hp : pre s.heap)
    (ret : ∀ c a b va vb na nb h' tk, Fr h₀ L h' m → News h₀ L h' (TwoO c a b :: LO a va na :: LO b vb nb :: news) →
      (∀ p ∈ news, p.1 ≠ c) → (∀ p ∈ news, p.1 ≠ a) → (∀ p ∈ news, p.1 ≠ b) → IntsAre va xs → IntsAre vb ys → Q (.ref c) { s with heap := h', toks := tk }) :
    wpAny (model PySem.Challenge.rw_sa0088_01.row.prog w) A (call (.ref f) vs) Q E s := by
  refine use_spec S B F X N T hA hf hk hh hdp hun hp fun r h' tk hpost hs F' N' => ?_
  obtain ⟨c, a, b, va, vb, na, nb, rfl, hc, ha, hb, oc, oa, ob, ia, ib⟩ := hpost
  obtain ⟨c1, c2, c3⟩ := new_facts F N hc
  obtain ⟨a1, a2, a3⟩ := new_facts F N ha
  obtain ⟨b1, b2, b3⟩ := new_facts F N hb
  refine ret c a b va vb na nb h' tk F' (fun p hp => ?_) c3 a3 b3 ia ib
  rcases List.mem_cons.mp hp with rfl | hp
  · exact ⟨oc, c1, c2⟩
  rcases List.mem_cons.mp hp with rfl | hp
  · exact ⟨oa, a1, a2⟩
  rcases List.mem_cons.mp hp with rfl | hp
  · exact ⟨ob, b1, b2⟩
  · exact N' p hp
theorem use_trip {xs ys zs : List Int} (S : Spec d f vs pre (NewT xs ys zs)) (B : Below A₀ base outer h₀) (F : Fr h₀ L s.heap m) (X : (K w.params).In h₀) (N : News h₀ L s.heap news) (T : Top hd.view_39 lse mean mg mb h₀)
    (hA : A.frames = some (env :: outer)) (hf : env.frame = some L) (hk : env.scope.kind = .function) (hh : A.handled = none) (hdp : A.depth + d < recursionLimit) (hun : A.units + 8 * d < cLine) (hp : pre s.heap)
    (ret : ∀ c a b e va vb ve na nb ne h' tk, Fr h₀ L h' m → News h₀ L h' (TriO c a b e :: LO a va na :: LO b vb nb :: LO e ve ne :: news) →
      (∀ p ∈ news, p.1 ≠ c) → (∀ p ∈ news, p.1 ≠ a) → (∀ p ∈ news, p.1 ≠ b) → (∀ p ∈ news, p.1 ≠ e) → IntsAre va xs → IntsAre vb ys → IntsAre ve zs → Q (.ref c) { s with heap := h', toks := tk }) :
    wpAny (model PySem.Challenge.rw_sa0088_01.row.prog w) A (call (.ref f) vs) Q E s := by
  refine use_spec S B F X N T hA hf hk hh hdp hun hp fun r h' tk hpost hs F' N' => ?_
  obtain ⟨c, a, b, e, va, vb, ve, na, nb, ne, rfl, hc, ha, hb, he, oc, oa, ob, oe, ia, ib, ie⟩ := hpost
  obtain ⟨c1, c2, c3⟩ := new_facts F N hc
  obtain ⟨a1, a2, a3⟩ := new_facts F N ha
  obtain ⟨b1, b2, b3⟩ := new_facts F N hb
  obtain ⟨e1, e2, e3⟩ := new_facts F N he
  refine ret c a b e va vb ve na nb ne h' tk F' (fun p hp => ?_) c3 a3 b3 e3 ia ib ie
  rcases List.mem_cons.mp hp with rfl | hp
  · exact ⟨oc, c1, c2⟩
  rcases List.mem_cons.mp hp with rfl | hp
  · exact ⟨oa, a1, a2⟩
  rcases List.mem_cons.mp hp with rfl | hp
  · exact ⟨ob, b1, b2⟩
  rcases List.mem_cons.mp hp with rfl | hp
  · exact ⟨oe, e1, e2⟩
  · exact N' p hp
end
section
variable {g h' : Heap} {L' a b c d : Addr} {m' : Str → Option Value} {s : Shared} {news : List (Addr × Obj)} {va vb vd : List Value} {na nb nd : Nat} {xs ys zs xs' ys' zs' : List Int} {tk : Nat}
theorem fin_pair (F : Fr g L' h' m') (N : News g L' h' news) (hc : (c, { cls := .type "tuple", data := .seq #[.ref a, .ref b] }) ∈ news) (ha : (a, W.listOf (List.toArray va) na) ∈ news) (hb : (b, W.listOf (List.toArray vb) nb) ∈ news)
    (hi : IntsAre va xs') (hj : IntsAre vb ys') (e1 : xs' = xs) (e2 : ys' = ys) : Fin g s (NewP xs ys) (.ref c) ⟨h', s.gens, s.drawn, tk, s.os⟩ :=
  ⟨h', tk, rfl, F.keep, c, a, b, va, vb, na, nb, rfl, (N _ hc).2.2, (N _ ha).2.2, (N _ hb).2.2, (N _ hc).1, (N _ ha).1, (N _ hb).1, e1 ▸ hi, e2 ▸ hj⟩
theorem fin_trip (F : Fr g L' h' m') (N : News g L' h' news) (hc : (c, { cls := .type "tuple", data := .seq #[.ref a, .ref b, .ref d] }) ∈ news) (ha : (a, W.listOf (List.toArray va) na) ∈ news) (hb : (b, W.listOf (List.toArray vb) nb) ∈ news) (hd : (d, W.listOf (List.toArray vd) nd) ∈ news)
    (hi : IntsAre va xs') (hj : IntsAre vb ys') (hk : IntsAre vd zs') (e1 : xs' = xs) (e2 : ys' = ys) (e3 : zs' = zs) : Fin g s (NewT xs ys zs) (.ref c) ⟨h', s.gens, s.drawn, tk, s.os⟩ :=
  ⟨h', tk, rfl, F.keep, c, a, b, d, va, vb, vd, na, nb, nd, rfl, (N _ hc).2.2, (N _ ha).2.2, (N _ hb).2.2, (N _ hd).2.2, (N _ hc).1, (N _ ha).1, (N _ hb).1, (N _ hd).1, e1 ▸ hi, e2 ▸ hj, e3 ▸ hk⟩
end
-- Pure1
/-- without its zeros at the end -/
noncomputable def trimF : List Int → List Int
  | [] => []
  | x :: xs => match trimF xs with
    | [] => if x = 0 then [] else [x]
    | y :: ys => x :: y :: ys
theorem trim_nat : ∀ (ns : List Int) (k : Nat), k ≤ ns.length → (∀ j, k ≤ j → j < ns.length → ns.getD j 0 = 0) → (∀ i, k = i + 1 → ns.getD i 0 ≠ 0) → ns.take k = trimF ns
  | [], k, _, _, _ => by simp [trimF]
  | x :: xs, 0, _, hz, _ => by
    have e := trim_nat xs 0 (Nat.zero_le _) (fun j _ h => by have := hz (j + 1) (Nat.zero_le _) (by simpa using h); simpa using this) (fun i h => by omega)
    have h0 : x = 0 := by have := hz 0 (Nat.zero_le _) (by simp); simpa using this
    simp only [List.take_zero] at e
    simp only [trimF, ← e, h0, List.take_zero, if_true]
  | x :: xs, 1, _, hz, hs => by
    have e := trim_nat xs 0 (Nat.zero_le _) (fun j _ h => by have := hz (j + 1) (by omega) (by simpa using h); simpa using this) (fun i h => by omega)
    have h0 : x ≠ 0 := by have := hs 0 rfl; simpa using this
    simp only [List.take_zero] at e
    simp only [trimF, ← e, List.take_succ_cons, List.take_zero, if_neg h0]
  | x :: xs, k + 2, hk, hz, hs => by
    have e := trim_nat xs (k + 1) (by simp only [List.length_cons] at hk; omega) (fun j h1 h => by have := hz (j + 1) (by omega) (by simpa using h); simpa using this)
      (fun i h => by have := hs (i + 1) (by omega); simpa using this)
    have hne : trimF xs ≠ [] := by
      rw [← e]
      cases xs with
      | nil => simp only [List.length_cons, List.length_nil] at hk; omega
      | cons y ys => simp
    rw [List.take_succ_cons, e, trimF]
    cases h : trimF xs with
    | nil => exact absurd h hne
    | cons y ys => rfl
theorem trim_take {ns : List Int} {k : Int} (h0 : 0 ≤ k) (hk : k ≤ ns.length) (hz : ∀ j, k < j → j ≤ ns.length → ns.getD (j - 1).toNat 0 = 0) (hs : 0 < k → ns.getD (k - 1).toNat 0 ≠ 0) : ns.take k.toNat = trimF ns := by
  refine trim_nat ns k.toNat (by omega) (fun j h1 h2 => ?_) (fun i h => ?_)
  · have := hz ((j : Int) + 1) (by omega) (by omega)
    have e : ((j : Int) + 1 - 1).toNat = j := by omega
    rwa [e] at this
  · have := hs (by omega)
    have e : (k - 1).toNat = i := by omega
    rwa [e] at this
theorem trim_length (ns : List Int) : (trimF ns).length ≤ ns.length := by
  induction ns with
  | nil => simp [trimF]
  | cons x xs ih =>
    rw [trimF]
    cases h : trimF xs with
    | nil => dsimp only; split <;> simp
    | cons y ys => rw [h] at ih; simp only [List.length_cons] at ih ⊢; omega
theorem trim_mem {x : Int} {ns : List Int} (h : x ∈ trimF ns) : x ∈ ns := by
  induction ns with
  | nil => simp [trimF] at h
  | cons y ys ih =>
    rw [trimF] at h
    cases h' : trimF ys with
    | nil =>
      rw [h'] at h
      dsimp only at h
      split at h
      · cases h
      · rw [List.mem_singleton] at h; simp [h]
    | cons z zs =>
      rw [h'] at h
      dsimp only at h
      rcases List.mem_cons.mp h with e | e
      · simp [e]
      · exact List.mem_cons_of_mem _ (ih (h' ▸ e))
-- Pure2
theorem foldl_snoc {β : Type} (F : List Int → β → List Int) (f : β → Int) (h : ∀ a b, F a b = a ++ [f b]) : ∀ (l : List β) (acc : List Int), l.foldl F acc = acc ++ l.map f
  | [], acc => by simp
  | b :: r, acc => by rw [List.foldl_cons, foldl_snoc F f h r, h]; simp
theorem foldl_snocM {β : Type} (F : List Int → β → List Int) (f : β → Int) : ∀ (l : List β) (acc : List Int), (∀ a, ∀ b ∈ l, F a b = a ++ [f b]) → l.foldl F acc = acc ++ l.map f
  | [], acc, _ => by simp
  | b :: r, acc, h => by rw [List.foldl_cons, foldl_snocM F f r _ (fun a b hb => h a b (List.mem_cons_of_mem _ hb)), h _ _ (List.mem_cons_self ..)]; simp
noncomputable def addF (p : Int) (xs ys : List Int) : List Int := (List.range (max xs.length ys.length)).map fun i => (xs.getD i 0 + ys.getD i 0).fmod p
noncomputable def maddF (p : Int) (xs ys : List Int) : List Int := trimF (addF p xs ys)
noncomputable def negF (p : Int) (xs : List Int) : List Int := xs.map fun x => (-x).fmod p
noncomputable def msubF (p : Int) (xs ys : List Int) : List Int := maddF p xs (negF p ys)
noncomputable def mscaleF (p c : Int) (xs : List Int) : List Int := trimF (xs.map fun x => (x * c).fmod p)
theorem getD_out {xs : List Int} {i : Nat} (h : xs.length ≤ i) : xs.getD i 0 = 0 := by
  rw [List.getD_eq_getElem?_getD, List.getElem?_eq_none h]; rfl
theorem rangeKs_zero (n : Nat) : rangeKs 0 n = (List.range n).map (fun (i : Nat) => (i : Int)) := by
  unfold rangeKs
  congr 1
  funext i
  exact Int.zero_add _
theorem add_fold (p : Int) (xs ys : List Int) :
    List.foldl (fun (a' : List Int) (k' : Int) => if k' < ↑xs.length ∧ k' < ↑ys.length then a' ++ [(xs.getD k'.toNat 0 + ys.getD k'.toNat 0).fmod p] else if k' < ↑xs.length ∧ ¬k' < ↑ys.length then a' ++ [(xs.getD k'.toNat 0 + 0).fmod p] else a' ++ [(0 + ys.getD k'.toNat 0).fmod p])
      [] (rangeKs 0 ((if (ys.length : Int) > (xs.length : Int) then (ys.length : Int) else (xs.length : Int)) - 0).toNat) = addF p xs ys := by
  have en : ((if (ys.length : Int) > (xs.length : Int) then (ys.length : Int) else (xs.length : Int)) - 0).toNat = max xs.length ys.length := by
    split <;> omega
  rw [en, rangeKs_zero, List.foldl_map]
  rw [foldl_snoc _ (fun (i : Nat) => (xs.getD i 0 + ys.getD i 0).fmod p)]
  · rfl
  · intro a i
    have ei : ((i : Int)).toNat = i := Int.toNat_natCast i
    simp only [ei]
    by_cases h1 : (i : Int) < xs.length
    · by_cases h2 : (i : Int) < ys.length
      · rw [if_pos ⟨h1, h2⟩]
      · rw [if_neg (fun q => h2 q.2), if_pos ⟨h1, h2⟩, getD_out (xs := ys) (by omega)]
    · rw [if_neg (fun q => h1 q.1), if_neg (fun q => h1 q.1), getD_out (xs := xs) (by omega)]
theorem add_length (p : Int) (xs ys : List Int) : (addF p xs ys).length = max xs.length ys.length := by simp [addF]
theorem neg_length (p : Int) (xs : List Int) : (negF p xs).length = xs.length := by simp [negF]
theorem fmod_mem (x : Int) {p : Int} (h : 2 ≤ p) (h3 : p ≤ 3) : 0 ≤ x.fmod p ∧ x.fmod p < 3 :=
  ⟨Int.fmod_nonneg_of_pos x (by omega), Int.lt_of_lt_of_le (Int.fmod_lt_of_pos x (by omega)) h3⟩
/-- small numbers, as the walks ask -/
noncomputable def Sm (xs : List Int) : Prop := ∀ x ∈ xs, 0 ≤ x ∧ x < 3
theorem Sm.trim {xs : List Int} (h : Sm xs) : Sm (trimF xs) := fun x hx => h x (trim_mem hx)
theorem sm_add {p : Int} (h : 2 ≤ p) (h3 : p ≤ 3) (xs ys : List Int) : Sm (addF p xs ys) := by
  intro x hx
  obtain ⟨i, _, rfl⟩ := List.mem_map.mp hx
  exact fmod_mem _ h h3
theorem sm_madd {p : Int} (h : 2 ≤ p) (h3 : p ≤ 3) (xs ys : List Int) : Sm (maddF p xs ys) := (sm_add h h3 xs ys).trim
theorem sm_neg {p : Int} (h : 2 ≤ p) (h3 : p ≤ 3) (xs : List Int) : Sm (negF p xs) := by
  intro x hx
  obtain ⟨i, _, rfl⟩ := List.mem_map.mp hx
  exact fmod_mem _ h h3
theorem sm_mscale {p : Int} (h : 2 ≤ p) (h3 : p ≤ 3) (c : Int) (xs : List Int) : Sm (mscaleF p c xs) := by
  refine Sm.trim fun x hx => ?_
  obtain ⟨i, _, rfl⟩ := List.mem_map.mp hx
  exact fmod_mem _ h h3
theorem madd_length (p : Int) (xs ys : List Int) : (maddF p xs ys).length ≤ max xs.length ys.length := Nat.le_trans (trim_length _) (Nat.le_of_eq (add_length p xs ys))
theorem msub_length (p : Int) (xs ys : List Int) : (msubF p xs ys).length ≤ max xs.length ys.length := by
  have := madd_length p xs (negF p ys)
  rwa [neg_length] at this
theorem mscale_length (p c : Int) (xs : List Int) : (mscaleF p c xs).length ≤ xs.length := Nat.le_trans (trim_length _) (by simp)
-- Enum
section
variable {prog : Program} {w : World} {A : Around} {E : Value → Shared → Prop} {s : Shared} {env : Env} {h₀ : Heap} {xi xc : Str} {body : List Stmt} {Q : Flow → Shared → Prop}
theorem enum_invN {l : Addr} {vs : List Value} {ns : List Int} {m₀ : Str → Option Value} {news : List (Addr × Obj)} (J : Nat → (Str → Option Value) → List (Addr × Obj) → Prop)
    (hh : A.handled = none) (hl : h₀.IsList l vs.toArray) (hi : IntsAre vs ns) (F : Fr h₀ env.locals s.heap m₀) (N : News h₀ env.locals s.heap news) (hj : J 0 m₀ news)
    (turn : ∀ i n t t' m₁ news₁ h tk own, ns[i]? = some n → news₁.map (·.1) = news.map (·.1) → OwnOff own (news.map (·.1)) → J i m₁ news₁ →
      Fr h₀ env.locals h (fun y => if y = xc then some (.int n t) else if y = xi then some (.int (i : Nat) t') else m₁ y) → News h₀ env.locals h (news₁ ++ own) →
      wpAny (model prog w) A (execs body env) (InvPostN h₀ env.locals (J (i + 1)) own (news.map (·.1)) { s with heap := h, toks := tk } Q) E { s with heap := h, toks := tk })
    (done : ∀ m₁ news₁ h tk, J ns.length m₁ news₁ → Fr h₀ env.locals h m₁ → News h₀ env.locals h news₁ → Q .next { s with heap := h, toks := tk }) :
    wpAny (model prog w) A (call (.type "enumerate") [.ref l]) (fun xv s₁ => wpAny (model prog w) A (pyIter xv) (fun it s₂ => PairAt3 prog w A h₀ env xi xc body Q E it s₂) E s₁) E s := by
  have hls : s.heap.IsList l vs.toArray := hl.at fun o e => F.keep l o e
  obtain ⟨ol, hol, _⟩ := id hl
  have hlt0 : l < s.heap.objs.size := Heap.lt_size (F.keep _ _ hol)
  have hLs : env.locals < s.heap.objs.size := F.ns.lt
  refine call_enumerate_list hls fun h' hE hI hsz hk => ?_
  refine wpAny_pyIter_enum hE ?_
  have hlen : vs.toArray.size = ns.length := by simp [hi.length]
  have W := WalksT.enumerate (prog := prog) (w := w) hh (s.heap.objs.size + 1) s.heap.objs.size l (Nat.succ_ne_self _) (ktu_ne 1 hlt0) (Nat.ne_of_lt hlt0) vs.toArray
  rw [hlen] at W
  refine ⟨_, _, _, ns.length, _, _, _, fun i v0 v1 => ∃ n t t', ns[i]? = some n ∧ v1 = .int n t ∧ v0 = .int (i : Nat) t', m₀, news, J, rfl, W, ?_, ?_, ?_, ?_, ⟨⟨.none, hE⟩, hI, hls.at fun o e => hk l o e⟩, F.keeps hk, N.grown hk, hj, ?_, ?_⟩
  · rintro i vals ⟨t, x, hx, rfl⟩
    have hx' : vs[i]? = some x := by simpa using hx
    have hlt : i < ns.length := by
      have := (List.getElem?_eq_some_iff.mp hx').1
      rwa [hi.length] at this
    obtain ⟨t', hx2⟩ := hi.get i ns[i] (by simp [hlt])
    rw [hx'] at hx2
    exact ⟨_, _, rfl, ns[i], t', t, by simp [hlt], Option.some.inj hx2, rfl⟩
  · intro hm
    rcases List.mem_cons.mp hm with e | hm
    · exact ktu_ne 1 hLs e
    · rcases List.mem_cons.mp hm with e | hm
      · exact Nat.ne_of_lt hLs e
      · exact absurd (Nat.lt_of_lt_of_le (Heap.lt_size hol) F.above) ((List.mem_singleton.mp hm) ▸ Nat.lt_irrefl _)
  · intro b hb
    rcases List.mem_cons.mp hb with rfl | hb
    · exact ktu_new F (Nat.le_add_right _ _)
    · rw [List.mem_singleton.mp hb]; exact ktu_new F (Nat.le_refl _)
  · intro p hp hb
    have := Heap.lt_size (N p hp).1
    rcases List.mem_cons.mp hb with e | hb
    · exact ktu_ne 1 this e
    · exact Nat.ne_of_lt this (List.mem_singleton.mp hb)
  · rintro i v0 v1 m₁ news₁ s₁ own ⟨hh', tk', rfl⟩ hin ⟨n, t, t', hn, rfl, rfl⟩ hJ hadr hown F₁ N₁
    have hsep : OwnOff own (news.map (·.1)) := by
      intro p hp b hb e
      obtain ⟨q, hq, rfl⟩ := List.mem_map.mp hb
      have hq' := Heap.lt_size (N q hq).1
      rw [← e] at hq'
      rcases List.mem_cons.mp (hown p hp) with h1 | h1
      · exact ktu_ne 1 hq' h1
      · rcases List.mem_cons.mp h1 with h1 | h1
        · exact Nat.ne_of_lt hq' h1
        · have h2 := List.mem_singleton.mp h1
          have h3 := (N₁ p (List.mem_append.mpr (.inl hp))).2.2
          rw [h2, hol] at h3
          cases h3
    have N₂ : News h₀ env.locals hh' (news₁ ++ own) := fun p hp => N₁ p ((List.mem_append.mp hp).elim (fun h => List.mem_append.mpr (.inr h)) fun h => List.mem_append.mpr (.inl h))
    refine wpAny_mono (turn i n t t' m₁ news₁ hh' tk' own hn hadr hsep hJ F₁ N₂) (fun f s₂ p => ?_) fun _ _ e => e
    have fin : InvEndN h₀ env.locals (J (i + 1)) own (news.map (·.1)) { s with heap := hh', toks := tk' } s₂ → ∃ h' tk m₂ news₂, s₂ = { s with heap := h', toks := tk } ∧ Fr h₀ env.locals h' m₂ ∧ News h₀ env.locals h' (own ++ news₂) ∧ news₂.map (·.1) = news₁.map (·.1) ∧ J (i + 1) m₂ news₂ := by
      rintro ⟨h', tk, m', news', nx, e, F', N', hn, ho, ha, hm⟩
      exact ⟨h', tk, m', nx, e, F', fun p hp => N' p ((List.mem_append.mp hp).elim (ho p) (hn p)), ha.trans hadr.symm, hm⟩
    cases f with
    | ret v => exact p
    | brk => exact p
    | next => exact ⟨rfl, fin p⟩
    | cont => exact ⟨rfl, fin p⟩
  · rintro h' tk m' news' F' N' _ hJ
    exact done m' news' h' tk hJ F' N'
end

/-- a fold with the place -/
noncomputable def foldI {σ : Type} (g : σ → Nat → Int → σ) : List Int → Nat → σ → σ
  | [], _, a => a
  | n :: r, i, a => foldI g r (i + 1) (g a i n)
theorem foldI_snoc {σ : Type} (g : σ → Nat → Int → σ) (n : Int) : ∀ (ns : List Int) (i : Nat) (a : σ), foldI g (ns ++ [n]) i a = g (foldI g ns i a) (i + ns.length) n
  | [], i, a => rfl
  | k :: r, i, a => by
    rw [List.cons_append, foldI, foldI_snoc g n r, foldI, List.length_cons]
    congr 1
    omega
theorem foldI_inv {σ : Type} (g : σ → Nat → Int → σ) (P : σ → Prop) (h : ∀ a i n, P a → P (g a i n)) : ∀ (ns : List Int) (i : Nat) (a : σ), P a → P (foldI g ns i a)
  | [], _, _, ha => ha
  | n :: r, i, a, ha => foldI_inv g P h r (i + 1) _ (h a i n ha)

section
variable {prog : Program} {w : World} {A : Around} {E : Value → Shared → Prop} {s : Shared} {env : Env} {h₀ : Heap} {xi xc : Str} {body : List Stmt} {Q : Flow → Shared → Prop}
theorem enum_list {l : Addr} {vs : List Value} {ns : List Int} {m₀ : Str → Option Value} {pre post : List (Addr × Obj)} {d : Addr} {vs₀ : List Value} {n₀ : Nat} {a₀ : List Int} (stored : List Str) (P : List Int → Prop) (g : List Int → Nat → Int → List Int)
    (hh : A.handled = none) (hl : h₀.IsList l vs.toArray) (hi : IntsAre vs ns) (F : Fr h₀ env.locals s.heap m₀) (N : News h₀ env.locals s.heap (pre ++ (d, W.listOf vs₀.toArray n₀) :: post)) (h0 : IntsAre vs₀ a₀) (hp : P a₀) (hps : ∀ a i n, ns[i]? = some n → P a → P (g a i n))
    (turn : ∀ i n t t' a us nn (u : Str → Option Value) h tk own, ns[i]? = some n → n ∈ ns → i < ns.length → P a → OwnOff own (pre.map (·.1) ++ d :: post.map (·.1)) → IntsAre us a →
      Fr h₀ env.locals h (fun y => if y = xc then some (.int n t) else if y = xi then some (.int (i : Nat) t') else if stored.contains y then u y else m₀ y) → News h₀ env.locals h ((pre ++ (d, W.listOf us.toArray nn) :: post) ++ own) →
      wpAny (model prog w) A (execs body env) (InvPostN h₀ env.locals (fun m' nx => (∃ us' n', nx = pre ++ (d, W.listOf us'.toArray n') :: post ∧ IntsAre us' (g a i n)) ∧ ∀ z, z ≠ xc → z ≠ xi → stored.contains z = false → m' z = m₀ z) own (pre.map (·.1) ++ d :: post.map (·.1)) { s with heap := h, toks := tk } Q) E { s with heap := h, toks := tk })
    (done : ∀ (u : Str → Option Value) us nn h tk, IntsAre us (foldI g ns 0 a₀) → P (foldI g ns 0 a₀) → Fr h₀ env.locals h (fun y => if y = xc then u y else if y = xi then u y else if stored.contains y then u y else m₀ y) →
      News h₀ env.locals h (pre ++ (d, W.listOf us.toArray nn) :: post) → Q .next { s with heap := h, toks := tk }) :
    wpAny (model prog w) A (call (.type "enumerate") [.ref l]) (fun xv s₁ => wpAny (model prog w) A (pyIter xv) (fun it s₂ => PairAt3 prog w A h₀ env xi xc body Q E it s₂) E s₁) E s := by
  refine enum_invN (fun i m nx => P (foldI g (ns.take i) 0 a₀) ∧ (∃ us n, nx = pre ++ (d, W.listOf us.toArray n) :: post ∧ IntsAre us (foldI g (ns.take i) 0 a₀)) ∧ ∀ z, z ≠ xc → z ≠ xi → stored.contains z = false → m z = m₀ z) hh hl hi F N ⟨hp, ⟨vs₀, n₀, rfl, h0⟩, fun _ _ _ _ => rfl⟩ ?_ ?_
  · rintro i n t t' m₁ news₁ h tk own hn _ hsep ⟨hP, ⟨us, nn, rfl, hI⟩, hm⟩ F₁ N₁
    have hlt : i < ns.length := (List.getElem?_eq_some_iff.mp hn).1
    simp only [List.map_append, List.map_cons] at hsep
    have e : (fun y => if y = xc then some (Value.int n t) else if y = xi then some (Value.int (i : Nat) t') else m₁ y) = fun y => if y = xc then some (Value.int n t) else if y = xi then some (Value.int (i : Nat) t') else if stored.contains y then m₁ y else m₀ y := by
      funext y
      by_cases h1 : y = xc
      · simp [h1]
      · simp only [if_neg h1]
        by_cases h2 : y = xi
        · simp [h2]
        · simp only [if_neg h2]
          cases h3 : stored.contains y with
          | true => simp
          | false => simp only [Bool.false_eq_true, if_false]; exact hm y h1 h2 h3
    rw [e] at F₁
    have hs : foldI g (ns.take (i + 1)) 0 a₀ = g (foldI g (ns.take i) 0 a₀) i n := by
      have hl' : (ns.take i).length = i := by rw [List.length_take]; omega
      rw [List.take_add_one, hn]
      show foldI g (ns.take i ++ [n]) 0 a₀ = _
      rw [foldI_snoc, hl', Nat.zero_add]
    have hP' := hps _ i n hn hP
    rw [hs]
    have := turn i n t t' _ us nn m₁ h tk own hn (List.mem_of_getElem? hn) hlt hP hsep hI F₁ N₁
    simp only [List.map_append, List.map_cons]
    refine wpAny_mono this (fun f s₂ p => ?_) fun _ _ x => x
    have fin : InvEndN h₀ env.locals (fun m' nx => (∃ us' n', nx = pre ++ (d, W.listOf us'.toArray n') :: post ∧ IntsAre us' (g (foldI g (ns.take i) 0 a₀) i n)) ∧ ∀ z, z ≠ xc → z ≠ xi → stored.contains z = false → m' z = m₀ z) own (pre.map (·.1) ++ d :: post.map (·.1)) { s with heap := h, toks := tk } s₂ →
        InvEndN h₀ env.locals (fun m nx => P (g (foldI g (ns.take i) 0 a₀) i n) ∧ (∃ us n_1, nx = pre ++ (d, W.listOf us.toArray n_1) :: post ∧ IntsAre us (g (foldI g (ns.take i) 0 a₀) i n)) ∧ ∀ z, z ≠ xc → z ≠ xi → stored.contains z = false → m z = m₀ z) own (pre.map (·.1) ++ d :: post.map (·.1)) { s with heap := h, toks := tk } s₂ := by
      rintro ⟨h', tk, m', news', nx, e, F', N', hn, ho, ha, hm⟩
      exact ⟨h', tk, m', news', nx, e, F', N', hn, ho, ha, hP', hm⟩
    cases f with
    | ret v => exact p
    | brk => exact p
    | next => exact fin p
    | cont => exact fin p
  · rintro m₁ news₁ h tk ⟨hP, ⟨us, nn, rfl, hI⟩, hm⟩ F₁ N₁
    rw [List.take_length] at hP hI
    refine done m₁ us nn h tk hI hP ?_ N₁
    have e : (fun y => if y = xc then m₁ y else if y = xi then m₁ y else if stored.contains y then m₁ y else m₀ y) = m₁ := by
      funext y
      by_cases h1 : y = xc
      · simp [h1]
      · simp only [if_neg h1]
        by_cases h2 : y = xi
        · simp [h2]
        · simp only [if_neg h2]
          cases h3 : stored.contains y with
          | true => simp
          | false => simp only [Bool.false_eq_true, if_false]; exact (hm y h1 h2 h3).symm
    rw [e]; exact F₁
theorem endN {L : Addr} {m' m₀ : Str → Option Value} {own news' pre post : List (Addr × Obj)} {d : Addr} {stored : List Str} {s₁ : Shared} {h' : Heap} {tk : Nat} {us : List Value} {n' : Nat} {a b : List Int} (F : Fr h₀ L h' m') (N : News h₀ L h' news') (hd : (d, W.listOf us.toArray n') ∈ news') (hi : IntsAre us a) (e : a = b)
    (hn : ∀ p ∈ pre, p ∈ news') (hn2 : ∀ p ∈ post, p ∈ news') (ho : ∀ p ∈ own, p ∈ news') (hm : ∀ z, z ≠ xc → z ≠ xi → stored.contains z = false → m' z = m₀ z) :
    InvEndN h₀ L (fun m' nx => (∃ us' n', nx = pre ++ (d, W.listOf us'.toArray n') :: post ∧ IntsAre us' b) ∧ ∀ z, z ≠ xc → z ≠ xi → stored.contains z = false → m' z = m₀ z) own (pre.map (·.1) ++ d :: post.map (·.1)) s₁ { s₁ with heap := h', toks := tk } :=
  ⟨h', tk, m', news', _, rfl, F, N, fun p hp => (List.mem_append.mp hp).elim (hn p) fun hp => (List.mem_cons.mp hp).elim (fun q => q ▸ hd) (hn2 p), ho, by simp, ⟨us, n', rfl, e ▸ hi⟩, hm⟩
end
-- Pure3
noncomputable def mulI (p : Int) (i : Nat) (one : Int) (acc : List Int) (j : Nat) (other : Int) : List Int := acc.set (i + j) ((acc.getD (i + j) 0 + one * other).fmod p)
noncomputable def mulO (p : Int) (ys : List Int) (acc : List Int) (i : Nat) (one : Int) : List Int := if one = 0 then acc else foldI (mulI p i one) ys 0 acc
noncomputable def mmulF0 (p : Int) (xs ys : List Int) : List Int := if xs.length = 0 then [] else if ys.length = 0 then [] else trimF (foldI (mulO p ys) xs 0 (List.replicate (xs.length + ys.length - 1) 0))
theorem mulI_length (p : Int) (i : Nat) (one : Int) (acc : List Int) (j : Nat) (other : Int) : (mulI p i one acc j other).length = acc.length := by simp [mulI]
theorem mulO_length (p : Int) (ys acc : List Int) (i : Nat) (one : Int) : (mulO p ys acc i one).length = acc.length := by
  unfold mulO
  split
  · rfl
  · exact foldI_inv (mulI p i one) (fun b => b.length = acc.length) (fun a k n h => (mulI_length ..).trans h) ys 0 acc rfl
theorem mem_set {xs : List Int} {i : Nat} {v : Int} {P : Int → Prop} (h : ∀ x ∈ xs, P x) (hv : P v) : ∀ x ∈ xs.set i v, P x := fun x hx => by
  rcases List.mem_or_eq_of_mem_set hx with h1 | h1
  · exact h x h1
  · exact h1 ▸ hv
theorem sm_mulO {p : Int} (h : 2 ≤ p) (h3 : p ≤ 3) (ys acc : List Int) (i : Nat) (one : Int) (ha : Sm acc) : Sm (mulO p ys acc i one) := by
  unfold mulO
  split
  · exact ha
  · exact foldI_inv (mulI p i one) Sm (fun a k n h' => mem_set h' (fmod_mem _ h h3)) ys 0 acc ha
theorem sm_rep (n : Nat) : Sm (List.replicate n 0) := fun x hx => by
  rw [(List.mem_replicate.mp hx).2]; decide
theorem sm_mmul0 {p : Int} (h : 2 ≤ p) (h3 : p ≤ 3) (xs ys : List Int) : Sm (mmulF0 p xs ys) := by
  unfold mmulF0
  split
  · exact fun x hx => nomatch hx
  · split
    · exact fun x hx => nomatch hx
    · exact Sm.trim (foldI_inv (mulO p ys) Sm (fun a k n h' => sm_mulO h h3 ys a k n h') xs 0 _ (sm_rep _))
theorem mmul_length0 (p : Int) (xs ys : List Int) : (mmulF0 p xs ys).length ≤ xs.length + ys.length := by
  unfold mmulF0
  split
  · exact Nat.zero_le _
  · split
    · exact Nat.zero_le _
    · refine Nat.le_trans (trim_length _) ?_
      have := foldI_inv (mulO p ys) (fun b => b.length = xs.length + ys.length - 1) (fun a k n h => (mulO_length ..).trans h) xs 0 (List.replicate (xs.length + ys.length - 1) 0) (List.length_replicate ..)
      omega

noncomputable def divI (p c : Int) (i : Nat) (acc : List Int) (j : Nat) (other : Int) : List Int := acc.set (i + j) ((acc.getD (i + j) 0 - c * other).fmod p)
noncomputable def divC (p : Int) (ys : List Int) (ds : List Int) (k : Int) : Int := (ds.getD (k + (ys.length : Int) - 1).toNat 0 * ys.getD (-1 + (ys.length : Int)).toNat 0).fmod p
noncomputable def divO (p : Int) (ys : List Int) (st : List Int × List Int) (k : Int) : List Int × List Int :=
  (st.1.set k.toNat (divC p ys st.2 k), if divC p ys st.2 k = 0 then st.2 else foldI (divI p (divC p ys st.2 k) k.toNat) ys 0 st.2)
noncomputable def divS (p : Int) (xs ys : List Int) : List Int × List Int :=
  (downKs ((xs.length : Int) - ys.length) ((xs.length : Int) - ys.length - (-1)).toNat).foldl (divO p ys) (List.replicate (xs.length + 1 - ys.length) 0, xs)
noncomputable def mdivF0 (p : Int) (xs ys : List Int) : List Int × List Int := (trimF (divS p xs ys).1, trimF ((divS p xs ys).2.take (ys.length - 1)))
theorem divI_length (p c : Int) (i : Nat) (acc : List Int) (j : Nat) (other : Int) : (divI p c i acc j other).length = acc.length := by simp [divI]
/-- what a turn keeps -/
noncomputable def DivP (xs ys : List Int) (st : List Int × List Int) : Prop := st.1.length = xs.length + 1 - ys.length ∧ st.2.length = xs.length ∧ Sm st.1 ∧ Sm st.2
theorem divO_keeps {p : Int} (h : 2 ≤ p) (h3 : p ≤ 3) (xs ys : List Int) (st : List Int × List Int) (k : Int) (hp : DivP xs ys st) : DivP xs ys (divO p ys st k) := by
  obtain ⟨h1, h2, hq, hd⟩ := hp
  refine ⟨by simp [divO, h1], ?_, mem_set hq (fmod_mem _ h h3), ?_⟩
  · unfold divO
    dsimp only
    split
    · exact h2
    · exact foldI_inv (divI p _ k.toNat) (fun b => b.length = xs.length) (fun a k n h => (divI_length ..).trans h) ys 0 st.2 h2
  · unfold divO
    dsimp only
    split
    · exact hd
    · exact foldI_inv (divI p _ k.toNat) Sm (fun a k n h' => mem_set h' (fmod_mem _ h h3)) ys 0 st.2 hd
theorem foldl_keeps {σ β : Type} (P : σ → Prop) (g : σ → β → σ) (h : ∀ a b, P a → P (g a b)) : ∀ (l : List β) (a : σ), P a → P (l.foldl g a)
  | [], _, ha => ha
  | b :: r, a, ha => foldl_keeps P g h r _ (h a b ha)
theorem divS_keeps {p : Int} (h : 2 ≤ p) (h3 : p ≤ 3) {xs : List Int} (ys : List Int) (hx : Sm xs) : DivP xs ys (divS p xs ys) :=
  foldl_keeps (DivP xs ys) _ (fun a b ha => divO_keeps h h3 xs ys a b ha) _ _ ⟨List.length_replicate .., rfl, sm_rep _, hx⟩
theorem sm_take {xs : List Int} (h : Sm xs) (n : Nat) : Sm (xs.take n) := fun x hx => h x (List.mem_of_mem_take hx)
theorem sm_div1o {p : Int} (h : 2 ≤ p) (h3 : p ≤ 3) {xs : List Int} (ys : List Int) (hx : Sm xs) : Sm (mdivF0 p xs ys).1 := (divS_keeps h h3 ys hx).2.2.1.trim
theorem sm_div2o {p : Int} (h : 2 ≤ p) (h3 : p ≤ 3) {xs : List Int} (ys : List Int) (hx : Sm xs) : Sm (mdivF0 p xs ys).2 := (sm_take (divS_keeps h h3 ys hx).2.2.2 _).trim
theorem div1_length0 {p : Int} (h : 2 ≤ p) (h3 : p ≤ 3) {xs : List Int} (ys : List Int) (hx : Sm xs) : (mdivF0 p xs ys).1.length ≤ xs.length + 1 - ys.length :=
  Nat.le_trans (trim_length _) (Nat.le_of_eq (divS_keeps h h3 ys hx).1)
theorem div2_length0 (p : Int) (xs ys : List Int) : (mdivF0 p xs ys).2.length ≤ ys.length - 1 :=
  Nat.le_trans (trim_length _) (List.length_take_le _ _)
theorem sm_getD {xs : List Int} (h : Sm xs) (i : Nat) : 0 ≤ xs.getD i 0 ∧ xs.getD i 0 < 3 := by
  by_cases hi : i < xs.length
  · rw [List.getD_eq_getElem?_getD, List.getElem?_eq_getElem hi]; exact h _ (List.getElem_mem hi)
  · rw [getD_out (by omega)]; decide
abbrev InvOK (x p : Int) : Prop := (x = 1 ∧ p = 2) ∨ (x = 1 ∧ p = 3) ∨ (x = 2 ∧ p = 3)

/-- the same, by recursion alone: quick to reckon with -/
noncomputable def zipG (f : Int → Int → Int) : List Int → List Int → List Int
  | [], acc => acc
  | _ :: _, [] => []
  | y :: ys, a :: acc => f a y :: zipG f ys acc
noncomputable def atG (f : Int → Int → Int) : Nat → List Int → List Int → List Int
  | 0, ys, acc => zipG f ys acc
  | _ + 1, _, [] => []
  | i + 1, ys, a :: acc => a :: atG f i ys acc
theorem zipG_nil (f : Int → Int → Int) (ys : List Int) : zipG f ys [] = [] := by cases ys <;> rfl
theorem atG_nil (f : Int → Int → Int) (i : Nat) (ys : List Int) : atG f i ys [] = [] := by cases i with | zero => exact zipG_nil f ys | succ i => rfl
theorem atG_none (f : Int → Int → Int) : ∀ (i : Nat) (acc : List Int), atG f i [] acc = acc
  | 0, _ => rfl
  | _ + 1, [] => rfl
  | i + 1, a :: acc => by rw [atG, atG_none f i acc]
theorem atG_step (f : Int → Int → Int) (y : Int) (ys : List Int) : ∀ (k : Nat) (acc : List Int), atG f (k + 1) ys (acc.set k (f (acc.getD k 0) y)) = atG f k (y :: ys) acc
  | 0, [] => rfl
  | 0, _ :: _ => rfl
  | k + 1, [] => rfl
  | k + 1, a :: acc => by
    show a :: atG f (k + 1) ys (acc.set k (f (acc.getD k 0) y)) = a :: atG f k (y :: ys) acc
    rw [atG_step f y ys k acc]
theorem fold_at (f : Int → Int → Int) (i : Nat) : ∀ (ys : List Int) (j : Nat) (acc : List Int), foldI (fun acc j y => acc.set (i + j) (f (acc.getD (i + j) 0) y)) ys j acc = atG f (i + j) ys acc
  | [], j, acc => (atG_none f _ acc).symm
  | y :: ys, j, acc => by
    rw [foldI, fold_at f i ys (j + 1), ← atG_step]
    rfl
noncomputable def mulR (p : Int) (ys : List Int) : List Int → List Int → List Int
  | [], acc => acc
  | x :: xs, acc => match (if x = 0 then acc else zipG (fun a o => (a + x * o).fmod p) ys acc) with
    | [] => []
    | a :: r => a :: mulR p ys xs r
theorem mulO_at (p : Int) (ys acc : List Int) (i : Nat) (x : Int) : mulO p ys acc i x = if x = 0 then acc else atG (fun a o => (a + x * o).fmod p) i ys acc := by
  unfold mulO
  split
  · rfl
  · exact fold_at (fun a o => (a + x * o).fmod p) i ys 0 acc
theorem mulO_nil (p : Int) (ys : List Int) (i : Nat) (x : Int) : mulO p ys [] i x = [] := by
  rw [mulO_at, atG_nil, ite_self]
theorem mulO_cons (p : Int) (ys acc : List Int) (a : Int) (i : Nat) (x : Int) : mulO p ys (a :: acc) (i + 1) x = a :: mulO p ys acc i x := by
  rw [mulO_at, mulO_at]
  split <;> rfl
theorem foldO_nil (p : Int) (ys : List Int) : ∀ (xs : List Int) (i : Nat), foldI (mulO p ys) xs i [] = []
  | [], _ => rfl
  | x :: xs, i => by rw [foldI, mulO_nil, foldO_nil p ys xs]
theorem foldO_cons (p : Int) (ys : List Int) : ∀ (xs acc : List Int) (a : Int) (i : Nat), foldI (mulO p ys) xs (i + 1) (a :: acc) = a :: foldI (mulO p ys) xs i acc
  | [], _, _, _ => rfl
  | x :: xs, acc, a, i => by rw [foldI, mulO_cons, foldO_cons p ys xs, foldI]
theorem mulR_eq (p : Int) (ys : List Int) : ∀ xs acc : List Int, foldI (mulO p ys) xs 0 acc = mulR p ys xs acc
  | [], _ => rfl
  | x :: xs, acc => by
    rw [foldI, mulR]
    have e : mulO p ys acc 0 x = if x = 0 then acc else zipG (fun a o => (a + x * o).fmod p) ys acc := mulO_at p ys acc 0 x
    rw [e]
    cases (if x = 0 then acc else zipG (fun a o => (a + x * o).fmod p) ys acc) with
    | nil => exact foldO_nil p ys xs _
    | cons a r => rw [foldO_cons, mulR_eq p ys xs r]
noncomputable def mmulF (p : Int) (xs ys : List Int) : List Int := if xs.length = 0 then [] else if ys.length = 0 then [] else trimF (mulR p ys xs (List.replicate (xs.length + ys.length - 1) 0))
theorem mmul_eq (p : Int) (xs ys : List Int) : mmulF0 p xs ys = mmulF p xs ys := by
  unfold mmulF0 mmulF
  rw [mulR_eq]
theorem sm_mmul {p : Int} (h : 2 ≤ p) (h3 : p ≤ 3) (xs ys : List Int) : Sm (mmulF p xs ys) := mmul_eq p xs ys ▸ sm_mmul0 h h3 xs ys
theorem mmul_length (p : Int) (xs ys : List Int) : (mmulF p xs ys).length ≤ xs.length + ys.length := mmul_eq p xs ys ▸ mmul_length0 p xs ys
noncomputable def remR (p l : Int) (d : Nat) (ys : List Int) : Nat → List Int → List Int × List Int
  | 0, rest => ([], rest)
  | n + 1, [] => (List.replicate (n + 1) 0, [])
  | n + 1, x :: r => match remR p l d ys n r with
    | (q, r') => match (((x :: r').getD d 0) * l).fmod p with
      | c => (c :: q, if c = 0 then x :: r' else zipG (fun a o => (a - c * o).fmod p) ys (x :: r'))
/-- a turn, by a Nat -/
noncomputable def divN (p : Int) (ys : List Int) (st : List Int × List Int) (k : Nat) : List Int × List Int :=
  match ((st.2.getD (k + (ys.length - 1)) 0) * ys.getD (-1 + (ys.length : Int)).toNat 0).fmod p with
  | c => (st.1.set k c, if c = 0 then st.2 else atG (fun a o => (a - c * o).fmod p) k ys st.2)
theorem divO_nat (p : Int) (ys : List Int) (hy : 1 ≤ ys.length) (st : List Int × List Int) (k : Nat) : divO p ys st (k : Int) = divN p ys st k := by
  unfold divO divN divC
  have e : ((k : Int) + (ys.length : Int) - 1).toNat = k + (ys.length - 1) := by omega
  rw [e, Int.toNat_natCast]
  dsimp only
  split
  · rfl
  · generalize (st.2.getD (k + (ys.length - 1)) 0 * ys.getD (-1 + (ys.length : Int)).toNat 0).fmod p = c
    exact congrArg _ (fold_at (fun a o => (a - c * o).fmod p) k ys 0 st.2)
theorem divN_cons (p : Int) (ys : List Int) (q r : List Int) (q0 x : Int) (k : Nat) : divN p ys (q0 :: q, x :: r) (k + 1) = (q0 :: (divN p ys (q, r) k).1, x :: (divN p ys (q, r) k).2) := by
  unfold divN
  have e : (x :: r).getD (k + 1 + (ys.length - 1)) 0 = r.getD (k + (ys.length - 1)) 0 := by
    rw [show k + 1 + (ys.length - 1) = (k + (ys.length - 1)) + 1 from by omega]; rfl
  dsimp only
  rw [e]
  split <;> rfl
theorem foldN_cons (p : Int) (ys : List Int) (q0 x : Int) : ∀ (l : List Nat) (q r : List Int), (l.map (· + 1)).foldl (divN p ys) (q0 :: q, x :: r) = (q0 :: (l.foldl (divN p ys) (q, r)).1, x :: (l.foldl (divN p ys) (q, r)).2)
  | [], _, _ => rfl
  | k :: l, q, r => by
    rw [List.map_cons, List.foldl_cons, List.foldl_cons, divN_cons, foldN_cons p ys q0 x l]
noncomputable def downN : Nat → List Nat
  | 0 => []
  | n + 1 => n :: downN n
theorem downN_succ : ∀ n, downN (n + 1) = (downN n).map (· + 1) ++ [0]
  | 0 => rfl
  | n + 1 => by
    show (n + 1) :: downN (n + 1) = ((n :: downN n).map (· + 1)) ++ [0]
    rw [downN_succ n]
    rfl
theorem divN_nil (p : Int) (ys q : List Int) (k : Nat) : divN p ys (q, []) k = (q.set k 0, []) := by
  unfold divN
  have e : (([] : List Int).getD (k + (ys.length - 1)) 0 * ys.getD (-1 + (ys.length : Int)).toNat 0).fmod p = 0 := by
    show (0 * _ : Int).fmod p = 0
    rw [Int.zero_mul, Int.zero_fmod]
  dsimp only
  rw [e, if_pos rfl]
theorem set_rep (n k : Nat) : (List.replicate n (0 : Int)).set k 0 = List.replicate n 0 := by
  induction n generalizing k with
  | zero => rfl
  | succ n ih => cases k with
    | zero => rfl
    | succ k => show 0 :: (List.replicate n (0 : Int)).set k 0 = _; rw [ih]; rfl
theorem foldN_nil (p : Int) (ys : List Int) (n : Nat) : ∀ l : List Nat, l.foldl (divN p ys) (List.replicate n 0, []) = (List.replicate n 0, [])
  | [] => rfl
  | k :: l => by rw [List.foldl_cons, divN_nil, set_rep, foldN_nil p ys n l]
theorem remR_eq (p : Int) (ys : List Int) : ∀ (n : Nat) (rest : List Int), (downN n).foldl (divN p ys) (List.replicate n 0, rest) = remR p (ys.getD (-1 + (ys.length : Int)).toNat 0) (ys.length - 1) ys n rest
  | 0, _ => rfl
  | n + 1, [] => foldN_nil p ys (n + 1) _
  | n + 1, x :: r => by
    rw [downN_succ, List.foldl_append, show List.replicate (n + 1) (0 : Int) = 0 :: List.replicate n 0 from rfl, foldN_cons, remR_eq p ys n r, remR]
    rw [List.foldl_cons, List.foldl_nil]
    unfold divN
    dsimp only
    rw [Nat.zero_add]
    rfl
theorem downKs_nat (n : Nat) : downKs ((n : Int) - 1) n = (downN n).map fun (k : Nat) => (k : Int) := by
  induction n with
  | zero => rfl
  | succ n ih =>
    have e : downKs (((n + 1 : Nat) : Int) - 1) (n + 1) = (n : Int) :: downKs ((n : Int) - 1) n := by
      unfold downKs
      rw [List.range_succ_eq_map, List.map_cons, List.map_map]
      congr 1
      · omega
      · apply List.map_congr_left
        intro i _
        show ((n + 1 : Nat) : Int) - 1 - ((i + 1 : Nat) : Int) = (n : Int) - 1 - (i : Int)
        omega
    rw [e, ih]
    rfl
theorem fold_map {σ : Type} (g : σ → Int → σ) (h : σ → Nat → σ) (e : ∀ st (k : Nat), g st (k : Int) = h st k) : ∀ (l : List Nat) (st : σ), (l.map fun (k : Nat) => (k : Int)).foldl g st = l.foldl h st
  | [], _ => rfl
  | k :: l, st => by rw [List.map_cons, List.foldl_cons, List.foldl_cons, e, fold_map g h e l]
theorem divS_eq (p : Int) (xs ys : List Int) (hy : 1 ≤ ys.length) : divS p xs ys = remR p (ys.getD (-1 + (ys.length : Int)).toNat 0) (ys.length - 1) ys (xs.length + 1 - ys.length) xs := by
  rw [← remR_eq]
  unfold divS
  by_cases h : ys.length ≤ xs.length + 1
  · have e1 : ((xs.length : Int) - ys.length - (-1)).toNat = xs.length + 1 - ys.length := by omega
    have e2 : ((xs.length : Int) - ys.length) = (((xs.length + 1 - ys.length : Nat) : Int) - 1) := by omega
    rw [e1, e2, downKs_nat]
    exact fold_map _ _ (divO_nat p ys hy) _ _
  · have e1 : ((xs.length : Int) - ys.length - (-1)).toNat = 0 := by omega
    have e2 : xs.length + 1 - ys.length = 0 := by omega
    rw [e1, e2]
    rfl
noncomputable def mdivF (p : Int) (xs ys : List Int) : List Int × List Int := if ys.length = 0 then mdivF0 p xs ys else
  match remR p (ys.getD (-1 + (ys.length : Int)).toNat 0) (ys.length - 1) ys (xs.length + 1 - ys.length) xs with
  | (q, r) => (trimF q, trimF (r.take (ys.length - 1)))
theorem mdiv_eq (p : Int) (xs ys : List Int) : mdivF0 p xs ys = mdivF p xs ys := by
  unfold mdivF
  split
  · rfl
  · unfold mdivF0
    rw [divS_eq p xs ys (by omega)]
theorem sm_div1 {p : Int} (h : 2 ≤ p) (h3 : p ≤ 3) {xs : List Int} (ys : List Int) (hx : Sm xs) : Sm (mdivF p xs ys).1 := mdiv_eq p xs ys ▸ sm_div1o h h3 ys hx
theorem sm_div2 {p : Int} (h : 2 ≤ p) (h3 : p ≤ 3) {xs : List Int} (ys : List Int) (hx : Sm xs) : Sm (mdivF p xs ys).2 := mdiv_eq p xs ys ▸ sm_div2o h h3 ys hx
theorem div1_length {p : Int} (h : 2 ≤ p) (h3 : p ≤ 3) {xs : List Int} (ys : List Int) (hx : Sm xs) : (mdivF p xs ys).1.length ≤ xs.length + 1 - ys.length := mdiv_eq p xs ys ▸ div1_length0 h h3 ys hx
theorem div2_length (p : Int) (xs ys : List Int) : (mdivF p xs ys).2.length ≤ ys.length - 1 := mdiv_eq p xs ys ▸ div2_length0 p xs ys
-- Pure4
/-- a field's polynomial, as the walks ask -/
structure FOK (p : Int) (m : List Int) : Prop where
  p2 : 2 ≤ p
  p3 : p ≤ 3
  sm : Sm m
  l2 : 2 ≤ m.length
  l5 : m.length ≤ 5
  inv : InvOK (m.getD (-1 + (m.length : Int)).toNat 0) p
noncomputable def gfm (p : Int) (m a b : List Int) : List Int := (mdivF p (mmulF p a b) m).2
theorem sm_gfm {p : Int} (h : 2 ≤ p) (h3 : p ≤ 3) (m a b : List Int) : Sm (gfm p m a b) := sm_div2 h h3 m (sm_mmul h h3 a b)
theorem gfm_length (p : Int) (m a b : List Int) : (gfm p m a b).length ≤ m.length - 1 := div2_length ..
noncomputable def pow2 (p : Int) (m a : List Int) : List Int := gfm p m [1] (gfm p m a a)
noncomputable def pow3 (p : Int) (m a : List Int) : List Int := gfm p m (gfm p m [1] a) (gfm p m a a)
noncomputable def pow4 (p : Int) (m a : List Int) : List Int := gfm p m [1] (gfm p m (gfm p m a a) (gfm p m a a))
noncomputable def powF (n p : Int) (m a : List Int) : List Int := if n = 2 then pow2 p m a else if n = 3 then pow3 p m a else pow4 p m a
theorem sm_pow {p : Int} (h : 2 ≤ p) (h3 : p ≤ 3) (n : Int) (m a : List Int) : Sm (powF n p m a) := by
  unfold powF; split
  · exact sm_gfm h h3 _ _ _
  · split <;> exact sm_gfm h h3 _ _ _
theorem pow_length (n p : Int) (m a : List Int) : (powF n p m a).length ≤ m.length - 1 := by
  unfold powF; split
  · exact gfm_length ..
  · split <;> exact gfm_length ..
theorem sm_nil : Sm [] := fun _ h => nomatch h
theorem sm_one : Sm [1] := fun x h => by rw [List.mem_singleton.mp h]; decide
/-- trace, norm -/
noncomputable def trS (p : Int) (m : List Int) (st : List Int × List Int) : List Int × List Int := (maddF p st.1 st.2, powF p p m st.2)
noncomputable def trI (p : Int) (m a : List Int) : Nat → List Int × List Int
  | 0 => ([], a)
  | n + 1 => trS p m (trI p m a n)
noncomputable def noS (p : Int) (m : List Int) (st : List Int × List Int) : List Int × List Int := (gfm p m st.1 st.2, powF p p m st.2)
noncomputable def noI (p : Int) (m a : List Int) : Nat → List Int × List Int
  | 0 => ([1], a)
  | n + 1 => noS p m (noI p m a n)
noncomputable def numF (a : List Int) : Int := if a.length > 0 then a.getD 0 0 else 0
noncomputable def trF (p : Int) (m a : List Int) : Int := numF (trI p m a (m.length - 1)).1
noncomputable def noF (p : Int) (m a : List Int) : Int := numF (noI p m a (m.length - 1)).1
/-- total, product, here -/
noncomputable def dnS (q p : Int) (m : List Int) (st : List Int × List Int × List Int) : List Int × List Int × List Int := (maddF p st.1 st.2.2, gfm p m st.2.1 st.2.2, powF q p m st.2.2)
noncomputable def dnI (q p : Int) (m a : List Int) : Nat → List Int × List Int × List Int
  | 0 => ([], [1], a)
  | n + 1 => dnS q p m (dnI q p m a n)
noncomputable def SL (b : Nat) (xs : List Int) : Prop := Sm xs ∧ xs.length ≤ b
theorem tr_keeps {p : Int} (h : 2 ≤ p) (h3 : p ≤ 3) {m a : List Int} (hm : m.length ≤ 5) (ha : SL 40 a) : ∀ n, SL 40 (trI p m a n).1 ∧ SL 40 (trI p m a n).2
  | 0 => ⟨⟨sm_nil, Nat.zero_le _⟩, ha⟩
  | n + 1 => by
    obtain ⟨h1, h2⟩ := tr_keeps h h3 hm ha n
    refine ⟨⟨sm_madd h h3 _ _, (by have := h1.2; have := h2.2; have := madd_length p (trI p m a n).1 (trI p m a n).2; show (maddF p (trI p m a n).1 (trI p m a n).2).length ≤ 40; omega)⟩, ⟨sm_pow h h3 _ _ _, Nat.le_trans (pow_length ..) (by omega)⟩⟩
theorem no_keeps {p : Int} (h : 2 ≤ p) (h3 : p ≤ 3) {m a : List Int} (hm : m.length ≤ 5) (ha : SL 40 a) : ∀ n, SL 40 (noI p m a n).1 ∧ SL 40 (noI p m a n).2
  | 0 => ⟨⟨sm_one, by show 1 ≤ 40; decide⟩, ha⟩
  | n + 1 => by
    obtain ⟨h1, h2⟩ := no_keeps h h3 hm ha n
    refine ⟨⟨sm_gfm h h3 _ _ _, Nat.le_trans (gfm_length ..) (by omega)⟩, ⟨sm_pow h h3 _ _ _, Nat.le_trans (pow_length ..) (by omega)⟩⟩
theorem dn_keeps {q p : Int} (h : 2 ≤ p) (h3 : p ≤ 3) {m a : List Int} (hm : m.length ≤ 5) (ha : SL 40 a) : ∀ n, SL 40 (dnI q p m a n).1 ∧ SL 40 (dnI q p m a n).2.1 ∧ SL 40 (dnI q p m a n).2.2
  | 0 => ⟨⟨sm_nil, Nat.zero_le _⟩, ⟨sm_one, by show 1 ≤ 40; decide⟩, ha⟩
  | n + 1 => by
    obtain ⟨h1, h2, h4⟩ := dn_keeps (q := q) h h3 hm ha n
    refine ⟨⟨sm_madd h h3 _ _, (by have := h1.2; have := h4.2; have := madd_length p (dnI q p m a n).1 (dnI q p m a n).2.2; show (maddF p (dnI q p m a n).1 (dnI q p m a n).2.2).length ≤ 40; omega)⟩, ⟨sm_gfm h h3 _ _ _, Nat.le_trans (gfm_length ..) (by omega)⟩, ⟨sm_pow h h3 _ _ _, Nat.le_trans (pow_length ..) (by omega)⟩⟩
-- PureX
/-- the ways of the small euclid -/
structure E6 where
  x0 : Int
  x1 : Int
  x2 : Int
  y0 : Int
  y1 : Int
  y2 : Int
  deriving DecidableEq
noncomputable def E6.step (s : E6) : E6 := ⟨s.y0, s.y1, s.y2, s.x0 - s.x0.fdiv s.y0 * s.y0, s.x1 - s.x0.fdiv s.y0 * s.y1, s.x2 - s.x0.fdiv s.y0 * s.y2⟩
noncomputable def eL (x p : Int) : List E6 := if x = 2 then [⟨2, 1, 0, 3, 0, 1⟩, ⟨3, 0, 1, 2, 1, 0⟩, ⟨2, 1, 0, 1, -1, 1⟩, ⟨1, -1, 1, 0, 3, -2⟩] else [⟨1, 1, 0, p, 0, 1⟩, ⟨p, 0, 1, 1, 1, 0⟩, ⟨1, 1, 0, 0, -p, 1⟩]
theorem eL_all {x p : Int} (h : InvOK x p) : ∀ s ∈ eL x p, (-3 ≤ s.x0 ∧ s.x0 ≤ 3 ∧ -3 ≤ s.x1 ∧ s.x1 ≤ 3 ∧ -3 ≤ s.x2 ∧ s.x2 ≤ 3 ∧ 0 ≤ s.y0 ∧ s.y0 ≤ 3 ∧ -3 ≤ s.y1 ∧ s.y1 ≤ 3 ∧ -3 ≤ s.y2 ∧ s.y2 ≤ 3) ∧ (-3 ≤ s.x0.fdiv s.y0 ∧ s.x0.fdiv s.y0 ≤ 3) ∧ (s.y0 = 0 → s.x0 = 1 ∧ s.x1.fmod p = x) ∧ (s.y0 ≠ 0 → s.step ∈ eL x p ∧ s.step.y0 < s.y0) := by
  rcases h with ⟨rfl, rfl⟩ | ⟨rfl, rfl⟩ | ⟨rfl, rfl⟩ <;> decide
theorem eL_start {x p : Int} (h : InvOK x p) : (⟨x, 1, 0, p, 0, 1⟩ : E6) ∈ eL x p := by
  rcases h with ⟨rfl, rfl⟩ | ⟨rfl, rfl⟩ | ⟨rfl, rfl⟩ <;> decide
-- PureY
structure L3 where
  X : List Int
  Y : List Int
  Z : List Int
noncomputable def lastF (xs : List Int) : Int := xs.getD (-1 + (xs.length : Int)).toNat 0
noncomputable def nextL (p : Int) (one other : L3) : L3 := ⟨(mdivF p one.X other.X).2, msubF p one.Y (mmulF p (mdivF p one.X other.X).1 other.Y), msubF p one.Z (mmulF p (mdivF p one.X other.X).1 other.Z)⟩
noncomputable def extL (p : Int) : Nat → L3 → L3 → L3
  | 0, one, _ => one
  | n + 1, one, other => if other.X.length = 0 then one else extL p n other (nextL p one other)
noncomputable def slB (xs : List Int) : Bool := xs.all (fun x => decide (0 ≤ x) && decide (x < 3)) && Nat.ble xs.length 40
noncomputable def ok3 (u : L3) : Bool := slB u.X && slB u.Y && slB u.Z
noncomputable def extOK (p : Int) : Nat → L3 → L3 → Bool
  | 0, _, _ => false
  | n + 1, one, other => ok3 one && ok3 other && (if other.X.length = 0 then Nat.blt 0 one.X.length && decide (InvOK (lastF one.X) p) else decide (InvOK (lastF other.X) p) && extOK p n other (nextL p one other))
theorem slB_iff {xs : List Int} (h : slB xs = true) : SL 40 xs := by
  unfold slB at h
  rw [Bool.and_eq_true, List.all_eq_true] at h
  refine ⟨fun x hx => ?_, Nat.le_of_ble_eq_true h.2⟩
  have := h.1 x hx
  rw [Bool.and_eq_true, decide_eq_true_eq, decide_eq_true_eq] at this
  exact this
theorem ok3_iff {u : L3} (h : ok3 u = true) : SL 40 u.X ∧ SL 40 u.Y ∧ SL 40 u.Z := by
  unfold ok3 at h
  rw [Bool.and_eq_true, Bool.and_eq_true] at h
  exact ⟨slB_iff h.1.1, slB_iff h.1.2, slB_iff h.2⟩
/-- a fact that the arithmetic is not to see -/
noncomputable def Veil (P : Prop) : Prop := P
theorem Veil.out {P : Prop} (h : Veil P) : P := h
/-- what a turn knows -/
theorem ext_turn {p : Int} {n : Nat} {one other R : L3} (h : extOK p n one other = true) (hr : extL p n one other = R) :
    (SL 40 one.X ∧ SL 40 one.Y ∧ SL 40 one.Z) ∧ (SL 40 other.X ∧ SL 40 other.Y ∧ SL 40 other.Z) ∧ Veil (other.X.length = 0 → R = one ∧ 0 < one.X.length ∧ InvOK (lastF one.X) p) ∧
      Veil (other.X.length ≠ 0 → InvOK (lastF other.X) p ∧ ∃ k, n = k + 1 ∧ extOK p k other (nextL p one other) = true ∧ extL p k other (nextL p one other) = R) := by
  cases n with
  | zero => exact absurd h (by simp [extOK])
  | succ n =>
    rw [extOK, Bool.and_eq_true, Bool.and_eq_true] at h
    refine ⟨ok3_iff h.1.1, ok3_iff h.1.2, fun h0 => ?_, fun h0 => ?_⟩
    · have h2 := h.2
      rw [if_pos h0, Bool.and_eq_true, decide_eq_true_eq] at h2
      rw [extL, if_pos h0] at hr
      exact ⟨hr.symm, by have := h2.1; rwa [Nat.blt_eq] at this, h2.2⟩
    · have h2 := h.2
      rw [if_neg h0, Bool.and_eq_true, decide_eq_true_eq] at h2
      rw [extL, if_neg h0] at hr
      exact ⟨h2.1, n, rfl, h2.2, hr⟩
noncomputable def oneL (xs : List Int) : L3 := ⟨xs, [1], []⟩
noncomputable def otherL (ys : List Int) : L3 := ⟨ys, [], [1]⟩
noncomputable def extR (p : Int) (xs ys : List Int) : L3 := extL p 8 (oneL xs) (otherL ys)
noncomputable def extF (p : Int) (xs ys : List Int) : L3 := ⟨mscaleF p (lastF (extR p xs ys).X) (extR p xs ys).X, mscaleF p (lastF (extR p xs ys).X) (extR p xs ys).Y, mscaleF p (lastF (extR p xs ys).X) (extR p xs ys).Z⟩
theorem mcons {α : Type} {a : α} {r l : List α} (h : a ∈ l) (t : ∀ p ∈ r, p ∈ l) : ∀ p ∈ a :: r, p ∈ l := fun p hp => (List.mem_cons.mp hp).elim (fun e => e ▸ h) (t p)
theorem mnil {α : Type} {l : List α} : ∀ p ∈ ([] : List α), p ∈ l := fun _ h => nomatch h
-- PureZ
/-- the inverse, where it is one -/
noncomputable def minvF (p : Int) (f a : List Int) : List Int := (mdivF p (extF p (mdivF p a f).2 f).Y f).2
noncomputable def minvOK (p : Int) (f a : List Int) : Bool := extOK p 8 (oneL (mdivF p a f).2) (otherL f) && Nat.blt 0 (mdivF p (mdivF p a f).2 f).2.length && decide ((extF p (mdivF p a f).2 f).X = [1]) && slB (extF p (mdivF p a f).2 f).Y
theorem minvOK_iff {p : Int} {f a : List Int} (h : minvOK p f a = true) : extOK p 8 (oneL (mdivF p a f).2) (otherL f) = true ∧ (mdivF p (mdivF p a f).2 f).2.length ≠ 0 ∧ (extF p (mdivF p a f).2 f).X = [1] ∧ SL 40 (extF p (mdivF p a f).2 f).Y := by
  unfold minvOK at h
  rw [Bool.and_eq_true, Bool.and_eq_true, Bool.and_eq_true, decide_eq_true_eq, Nat.blt_eq] at h
  exact ⟨h.1.1.1, by omega, h.1.2, slB_iff h.2⟩
noncomputable def gdivF (p : Int) (f a b : List Int) : List Int := gfm p f a (minvF p f b)
-- Loops
noncomputable def StopAt (P : Prop) : Prop := P
theorem stopAt {P : Prop} (h : StopAt P) : P := h
theorem stopOff {P : Prop} (h : P) : StopAt P := h
section
variable {prog : Program} {w : World} {A : Around} {E : Value → Shared → Prop} {s : Shared} {env : Env} {h₀ : Heap} {x : Str} {body : List Stmt} {Q : Flow → Shared → Prop}
theorem newsSub {L : Addr} {h : Heap} {l l' : List (Addr × Obj)} (N : News h₀ L h l) (hs : ∀ p ∈ l', p ∈ l) : News h₀ L h l' := fun p hp => N p (hs p hp)

/-- a range downwards, two lists turned in place -/
theorem rangeD_two {r : Addr} {a₀ b₀ : Int} {t₀ u₀ v₀ : Tok} {n : Nat} {m₀ : Str → Option Value} {post news : List (Addr × Obj)} {d q : Addr} {vd₀ vq₀ : List Value} {nd₀ nq₀ : Nat} {d₀ q₀ : List Int} (stored : List Str)
    (P : List Int × List Int → Prop) (g : List Int × List Int → Int → List Int × List Int)
    (hh : A.handled = none) (hr : IsRange s.heap r a₀ b₀ (-1) t₀ u₀ v₀) (hsmall : Builtin.Range.small a₀ b₀ (-1) = true) (hn : Builtin.Range.rangeSize a₀ b₀ (-1) = (n : Int)) (F : Fr h₀ env.locals s.heap m₀)
    (N0 : News h₀ env.locals s.heap news) (hmd : (d, W.listOf vd₀.toArray nd₀) ∈ news) (hmq : (q, W.listOf vq₀.toArray nq₀) ∈ news) (hpost : ∀ p ∈ post, p ∈ news) (hd0 : IntsAre vd₀ d₀) (hq0 : IntsAre vq₀ q₀) (hp : P (q₀, d₀)) (hps : ∀ a k, a₀ - (n : Int) < k → k ≤ a₀ → P a → P (g a k))
    (turn : ∀ k t qs ds vq vd nq nd (u : Str → Option Value) h tk own, a₀ - (n : Int) < k → k ≤ a₀ → P (qs, ds) → OwnOff own (d :: q :: post.map (·.1)) → IntsAre vq qs → IntsAre vd ds →
      Fr h₀ env.locals h (fun y => if y = x then some (.int k t) else if stored.contains y then u y else m₀ y) → News h₀ env.locals h (((d, W.listOf vd.toArray nd) :: (q, W.listOf vq.toArray nq) :: post) ++ own) →
      wpAny (model prog w) A (execs body env) (InvPostN h₀ env.locals (fun m' nx => (∃ vd' nd' vq' nq', nx = (d, W.listOf vd'.toArray nd') :: (q, W.listOf vq'.toArray nq') :: post ∧ IntsAre vd' (g (qs, ds) k).2 ∧ IntsAre vq' (g (qs, ds) k).1) ∧ ∀ z, z ≠ x → stored.contains z = false → m' z = m₀ z) own (d :: q :: post.map (·.1)) { s with heap := h, toks := tk } Q) E { s with heap := h, toks := tk })
    (done : ∀ (u : Str → Option Value) vd vq nd nq h tk, IntsAre vd ((downKs a₀ n).foldl g (q₀, d₀)).2 → IntsAre vq ((downKs a₀ n).foldl g (q₀, d₀)).1 → P ((downKs a₀ n).foldl g (q₀, d₀)) → Fr h₀ env.locals h (fun y => if y = x then u y else if stored.contains y then u y else m₀ y) →
      News h₀ env.locals h ((d, W.listOf vd.toArray nd) :: (q, W.listOf vq.toArray nq) :: post) → Q .next { s with heap := h, toks := tk }) :
    wpAny (model prog w) A (pyIter (.ref r)) (fun it s₂ => LoopAtV prog w A h₀ env x body Q E it s₂) E s := by
  have N : News h₀ env.locals s.heap ((d, W.listOf vd₀.toArray nd₀) :: (q, W.listOf vq₀.toArray nq₀) :: post) := newsSub N0 fun p hp => (List.mem_cons.mp hp).elim (fun r => r ▸ hmd) fun hp => (List.mem_cons.mp hp).elim (fun r => r ▸ hmq) (hpost p)
  refine kst_rangeD (σ := (List Value × Nat) × (List Value × Nat) × (List Int × List Int)) (fun c => (d, W.listOf c.1.1.toArray c.1.2) :: (q, W.listOf c.2.1.1.toArray c.2.1.2) :: post) (fun _ => []) (fun c => IntsAre c.1.1 c.2.2.2 ∧ IntsAre c.2.1.1 c.2.2.1) stored
    (fun pre c => c.2.2 = pre.foldl g (q₀, d₀) ∧ P c.2.2) ((vd₀, nd₀), (vq₀, nq₀), (q₀, d₀)) hh hr hsmall hn F N ⟨hd0, hq0⟩ (fun _ h => nomatch h) ⟨rfl, hp⟩ ?_ ?_
  · rintro ⟨⟨vd, nd⟩, ⟨vq, nq⟩, qs, ds⟩ pre k t u h tk own rfl hlt hoff ⟨hd, hq⟩ ⟨he, hP⟩ F₁ N₁
    have hb1 : a₀ - (n : Int) < a₀ - (pre.length : Int) := by omega
    have hb2 : a₀ - (pre.length : Int) ≤ a₀ := by omega
    refine wpAny_mono (turn (a₀ - (pre.length : Int)) t qs ds vq vd nq nd u h tk own hb1 hb2 hP hoff hq hd F₁ N₁) (fun f s₂ p => ?_) fun _ _ e => e
    have fin : InvEndN h₀ env.locals (fun m' nx => (∃ vd' nd' vq' nq', nx = (d, W.listOf vd'.toArray nd') :: (q, W.listOf vq'.toArray nq') :: post ∧ IntsAre vd' (g (qs, ds) (a₀ - (pre.length : Int))).2 ∧ IntsAre vq' (g (qs, ds) (a₀ - (pre.length : Int))).1) ∧ ∀ z, z ≠ x → stored.contains z = false → m' z = m₀ z) own (d :: q :: post.map (·.1)) { s with heap := h, toks := tk } s₂ →
        InvEndN h₀ env.locals (KstS (σ := (List Value × Nat) × (List Value × Nat) × (List Int × List Int)) (fun c => (d, W.listOf c.1.1.toArray c.1.2) :: (q, W.listOf c.2.1.1.toArray c.2.1.2) :: post) (fun _ => []) (fun c => IntsAre c.1.1 c.2.2.2 ∧ IntsAre c.2.1.1 c.2.2.1) x stored m₀ (fun pre c => c.2.2 = pre.foldl g (q₀, d₀) ∧ P c.2.2) (pre ++ [a₀ - (pre.length : Int)])) own (d :: q :: post.map (·.1)) { s with heap := h, toks := tk } s₂ := by
      rintro ⟨h', tk, m', news', nx, e, F', N', hn, ho, ha, ⟨vd', nd', vq', nq', hnx, h1, h2⟩, hm⟩
      refine ⟨h', tk, m', news', nx, e, F', N', hn, ho, ha, ⟨((vd', nd'), (vq', nq'), g (qs, ds) (a₀ - (pre.length : Int))), hnx, ⟨h1, h2⟩, (fun _ h => nomatch h), (fun z hz _ hs => hm z hz hs), ?_, hps _ _ hb1 hb2 hP⟩⟩
      rw [List.foldl_append, ← he]; rfl
    cases f with
    | ret v => exact p
    | brk => exact p
    | next => exact fin p
    | cont => exact fin p
  · rintro ⟨⟨vd, nd⟩, ⟨vq, nq⟩, qs, ds⟩ u h tk ⟨hd, hq⟩ ⟨he, hP⟩ F₁ N₁
    dsimp only at he hP hd hq
    exact done u vd vq nd nq h tk (he ▸ hd) (he ▸ hq) (he ▸ hP) F₁ N₁

theorem endD {L : Addr} {m' m₀ : Str → Option Value} {own news' post : List (Addr × Obj)} {d q : Addr} {stored : List Str} {s₁ : Shared} {h' : Heap} {tk : Nat} {vd vq : List Value} {nd nq : Nat} {a b : List Int} {c : List Int × List Int} (F : Fr h₀ L h' m') (N : News h₀ L h' news')
    (hd : (d, W.listOf vd.toArray nd) ∈ news') (hq : (q, W.listOf vq.toArray nq) ∈ news') (hi : IntsAre vd a) (hj : IntsAre vq b) (e : (b, a) = c)
    (hn2 : ∀ p ∈ post, p ∈ news') (ho : ∀ p ∈ own, p ∈ news') (hm : ∀ z, z ≠ x → stored.contains z = false → m' z = m₀ z) :
    InvEndN h₀ L (fun m' nx => (∃ vd' nd' vq' nq', nx = (d, W.listOf vd'.toArray nd') :: (q, W.listOf vq'.toArray nq') :: post ∧ IntsAre vd' c.2 ∧ IntsAre vq' c.1) ∧ ∀ z, z ≠ x → stored.contains z = false → m' z = m₀ z) own (d :: q :: post.map (·.1)) s₁ { s₁ with heap := h', toks := tk } := by
  subst e
  exact ⟨h', tk, m', news', _, rfl, F, N, fun p hp => (List.mem_cons.mp hp).elim (fun r => r ▸ hd) fun hp => (List.mem_cons.mp hp).elim (fun r => r ▸ hq) (hn2 p), ho, rfl, ⟨vd, nd, vq, nq, rfl, hi, hj⟩, hm⟩

/-- a range upwards, any state -/
theorem range_J {r : Addr} {a₀ b₀ : Int} {t₀ u₀ v₀ : Tok} {n : Nat} {m₀ : Str → Option Value} {news : List (Addr × Obj)} (J : Nat → (Str → Option Value) → List (Addr × Obj) → Prop)
    (hh : A.handled = none) (hr : IsRange s.heap r a₀ b₀ 1 t₀ u₀ v₀) (hsmall : Builtin.Range.small a₀ b₀ 1 = true) (hn : Builtin.Range.rangeSize a₀ b₀ 1 = (n : Int)) (F : Fr h₀ env.locals s.heap m₀) (N : News h₀ env.locals s.heap news) (hj : J 0 m₀ news)
    (turn : ∀ i I it t m₁ news₁ h tk, i < n → J i m₁ news₁ → (∀ p ∈ news₁, p.1 ≠ I) → Fr h₀ env.locals h (fun y => if y = x then some (.int (a₀ + (i : Int)) t) else m₁ y) → News h₀ env.locals h ((I, it) :: news₁) →
      wpAny (model prog w) A (execs body env) (UnrPost h₀ env.locals { s with heap := h, toks := tk } I it (J (i + 1)) Q) E { s with heap := h, toks := tk })
    (done : ∀ m₁ news₁ h tk, J n m₁ news₁ → Fr h₀ env.locals h m₁ → News h₀ env.locals h news₁ → Q .next { s with heap := h, toks := tk }) :
    wpAny (model prog w) A (pyIter (.ref r)) (fun it s₂ => LoopAtV prog w A h₀ env x body Q E it s₂) E s := by
  refine wpAny_pyIter_range hr hsmall ?_
  have W : Walks prog w A s.heap.objs.size [s.heap.objs.size] [s.heap.objs.size] n (fun i v => i < n ∧ ∃ t, v = .int (a₀ + i * 1) t)
      (fun i h => IsRangeIter h s.heap.objs.size (a₀ + (i : Nat) * 1) ((n : Int) - (i : Nat)) 1) := (Walks.range hh _ a₀ 1 n).bound
  have hnew := next_is_new F
  refine ⟨_, _, _, n, _, _, m₀, news, J, rfl, W, ?_, ?_, ?_, (by show IsRangeIter _ _ _ _ _; rw [hn]; simpa using Heap.get?_push_size _ rfl), F.push _, (fun p hp => ⟨Heap.get?_push_of_some _ (N p hp).1, (N p hp).2⟩), hj, ?_, ?_⟩
  · intro hm
    exact absurd F.ns.lt ((List.mem_singleton.mp hm) ▸ Nat.lt_irrefl _)
  · intro b hb
    rw [List.mem_singleton.mp hb]
    exact hnew
  · intro p hp hI
    exact absurd (Heap.lt_size (N p hp).1) ((List.mem_singleton.mp hI) ▸ Nat.lt_irrefl _)
  · rintro i v m₁ news₁ s₁ own ⟨hh', tk', rfl⟩ hin ⟨_, t, rfl⟩ hJ hoff hown hget hall hst F₁ N₁
    have hst' : hh'.get? s.heap.objs.size = some (itR (a₀ + ((i + 1 : Nat) : Int)) ((n : Int) - ((i + 1 : Nat) : Int))) := by
      have q : IsRangeIter hh' s.heap.objs.size (a₀ + ((i + 1 : Nat) : Int) * 1) ((n : Int) - ((i + 1 : Nat) : Int)) 1 := hst
      rw [Int.mul_one] at q
      exact q
    have hmem := hall s.heap.objs.size (List.mem_singleton.mpr rfl) hnew _ hst'
    have e1 : a₀ + (i : Int) * 1 = a₀ + (i : Int) := by rw [Int.mul_one]
    rw [e1] at F₁
    have N₂ : News h₀ env.locals hh' ((s.heap.objs.size, itR (a₀ + ((i + 1 : Nat) : Int)) ((n : Int) - ((i + 1 : Nat) : Int))) :: news₁) := fun p hp => by
      rcases List.mem_cons.mp hp with rfl | hp
      · exact N₁ _ (List.mem_append_left _ hmem)
      · exact N₁ _ (List.mem_append_right _ hp)
    refine wpAny_mono (turn i _ _ t m₁ news₁ hh' tk' hin hJ (fun p hp e => hoff p hp (List.mem_singleton.mpr e)) F₁ N₂) (fun f s₂ p => ?_) fun _ _ e => e
    have fin : UnrEnd h₀ env.locals { s with heap := hh', toks := tk' } s.heap.objs.size (itR (a₀ + ((i + 1 : Nat) : Int)) ((n : Int) - ((i + 1 : Nat) : Int))) (J (i + 1)) s₂ →
        LoopStepU h₀ env.locals [s.heap.objs.size] own (J (i + 1)) { s with heap := hh', toks := tk' } .next s₂ := by
      rintro ⟨h', tk, m', news', e, F', N', ho, r⟩
      refine ⟨rfl, h', tk, m', news', e, F', fun p hp => ?_, fun p hp hI => ho p hp (List.mem_singleton.mp hI), r⟩
      rcases List.mem_append.mp hp with hp | hp
      · have h1 : p.1 = s.heap.objs.size := List.mem_singleton.mp (hown p hp)
        have h2 : hh'.get? p.1 = some p.2 := hget p hp
        have h3 : p = (s.heap.objs.size, itR (a₀ + ((i + 1 : Nat) : Int)) ((n : Int) - ((i + 1 : Nat) : Int))) := by
          rw [h1, hst'] at h2
          exact Prod.ext h1 (Option.some.inj h2).symm
        rw [h3]; exact N' _ (List.mem_cons_self ..)
      · exact N' _ (List.mem_cons_of_mem _ hp)
    cases f with
    | ret v => exact .ret p
    | brk => exact .brk p
    | next => exact .next (fin p)
    | cont => exact .cont (fin p)
  · rintro h' tk m' news' F' N' _ hJ
    exact done m' news' h' tk hJ F' N'
end
-- Loops2
section
variable {prog : Program} {w : World} {A : Around} {E : Value → Shared → Prop} {s : Shared} {env : Env} {h₀ : Heap} {x n1 n2 n3 : Str} {body : List Stmt} {Q : Flow → Shared → Prop} {L : Addr}
theorem fr_off {h : Heap} {m m' : Str → Option Value} {v : Str → Option Value} (F : Fr h₀ L h fun y => if y = x then v y else m y) (e : ∀ z, z ≠ x → m z = m' z) : Fr h₀ L h fun y => if y = x then v y else m' y := by
  have e2 : (fun y => if y = x then v y else m y) = fun y => if y = x then v y else m' y := by
    funext y
    by_cases hy : y = x
    · rw [if_pos hy, if_pos hy]
    · rw [if_neg hy, if_neg hy]; exact e y hy
  rw [← e2]; exact F
theorem fr_self {h : Heap} {m m' : Str → Option Value} (F : Fr h₀ L h m) (e : ∀ z, z ≠ x → m z = m' z) : Fr h₀ L h fun y => if y = x then m y else m' y := by
  have e2 : m = fun y => if y = x then m y else m' y := by
    funext y
    by_cases hy : y = x
    · rw [if_pos hy]
    · rw [if_neg hy]; exact e y hy
  rw [← e2]; exact F
noncomputable def Two (n1 n2 x : Str) (m₀ : Str → Option Value) (st : List Int × List Int) (m : Str → Option Value) (news : List (Addr × Obj)) : Prop :=
  ∃ a1 v1 k1 a2 v2 k2, news = [LO a1 v1 k1, LO a2 v2 k2] ∧ IntsAre v1 st.1 ∧ IntsAre v2 st.2 ∧ ∀ z, z ≠ x → m z = if z = n1 then some (.ref a1) else if z = n2 then some (.ref a2) else m₀ z
theorem start2 {m₀ : Str → Option Value} {a1 a2 : Addr} (e1 : m₀ n1 = some (.ref a1)) (e2 : m₀ n2 = some (.ref a2)) (z : Str) : m₀ z = if z = n1 then some (.ref a1) else if z = n2 then some (.ref a2) else m₀ z := by
  by_cases h1 : z = n1
  · rw [if_pos h1, h1, e1]
  · rw [if_neg h1]
    by_cases h2 : z = n2
    · rw [if_pos h2, h2, e2]
    · rw [if_neg h2]
/-- a range upwards, two names bound anew to lists -/
theorem range_two {r : Addr} {b₀ : Int} {t₀ u₀ v₀ : Tok} {n : Nat} {m₀ : Str → Option Value} {news : List (Addr × Obj)} {a1 a2 : Addr} {v1 v2 : List Value} {k1 k2 : Nat} (n1 n2 : Str) (st : Nat → List Int × List Int)
    (hh : A.handled = none) (hr : IsRange s.heap r 0 b₀ 1 t₀ u₀ v₀) (hsmall : Builtin.Range.small 0 b₀ 1 = true) (hn : Builtin.Range.rangeSize 0 b₀ 1 = (n : Int)) (F : Fr h₀ env.locals s.heap m₀) (N : News h₀ env.locals s.heap news)
    (e1 : m₀ n1 = some (.ref a1)) (e2 : m₀ n2 = some (.ref a2)) (h1 : LO a1 v1 k1 ∈ news) (h2 : LO a2 v2 k2 ∈ news) (i1 : IntsAre v1 (st 0).1) (i2 : IntsAre v2 (st 0).2)
    (turn : ∀ i I it t a1 v1 k1 a2 v2 k2 h tk, i < n → a1 ≠ I → a2 ≠ I → IntsAre v1 (st i).1 → IntsAre v2 (st i).2 →
      Fr h₀ env.locals h (fun y => if y = x then some (.int (i : Nat) t) else if y = n1 then some (.ref a1) else if y = n2 then some (.ref a2) else m₀ y) → News h₀ env.locals h [(I, it), LO a1 v1 k1, LO a2 v2 k2] →
      wpAny (model prog w) A (execs body env) (UnrPost h₀ env.locals { s with heap := h, toks := tk } I it (Two n1 n2 x m₀ (st (i + 1))) Q) E { s with heap := h, toks := tk })
    (done : ∀ a1 v1 k1 a2 v2 k2 (u : Str → Option Value) h tk, IntsAre v1 (st n).1 → IntsAre v2 (st n).2 → Fr h₀ env.locals h (fun y => if y = x then u y else if y = n1 then some (.ref a1) else if y = n2 then some (.ref a2) else m₀ y) → News h₀ env.locals h [LO a1 v1 k1, LO a2 v2 k2] →
      Q .next { s with heap := h, toks := tk }) :
    wpAny (model prog w) A (pyIter (.ref r)) (fun it s₂ => LoopAtV prog w A h₀ env x body Q E it s₂) E s := by
  refine range_J (news := [LO a1 v1 k1, LO a2 v2 k2]) (fun i m nx => Two n1 n2 x m₀ (st i) m nx) hh hr hsmall hn F (newsSub N fun p hp => ?_) ⟨a1, v1, k1, a2, v2, k2, rfl, i1, i2, fun z _ => start2 e1 e2 z⟩ ?_ ?_
  · rcases List.mem_cons.mp hp with rfl | hp
    · exact h1
    · rw [List.mem_singleton.mp hp]; exact h2
  · rintro i I it t m₁ news₁ h tk hi ⟨a1, v1, k1, a2, v2, k2, rfl, i1, i2, hm⟩ ho F₁ N₁
    rw [Int.zero_add] at F₁
    exact turn i I it t a1 v1 k1 a2 v2 k2 h tk hi (ho _ (List.mem_cons_self ..)) (ho _ (List.mem_cons_of_mem _ (List.mem_cons_self ..))) i1 i2 (fr_off (v := fun _ => some (.int (i : Nat) t)) F₁ hm) N₁
  · rintro m₁ news₁ h tk ⟨a1, v1, k1, a2, v2, k2, rfl, i1, i2, hm⟩ F₁ N₁
    exact done a1 v1 k1 a2 v2 k2 m₁ h tk i1 i2 (fr_self F₁ hm) N₁
theorem end2 {I : Addr} {it : Obj} {m₀ m' : Str → Option Value} {st : List Int × List Int} {s₁ : Shared} {h' : Heap} {tk : Nat} {all : List (Addr × Obj)} {a1 a2 : Addr} {v1 v2 : List Value} {k1 k2 : Nat} {xs ys : List Int}
    (F : Fr h₀ L h' m') (N : News h₀ L h' all) (e1 : m' n1 = some (.ref a1)) (e2 : m' n2 = some (.ref a2)) (hI : (I, it) ∈ all) (h1 : LO a1 v1 k1 ∈ all) (h2 : LO a2 v2 k2 ∈ all) (o1 : a1 ≠ I) (o2 : a2 ≠ I)
    (i1 : IntsAre v1 xs) (i2 : IntsAre v2 ys) (e : (xs, ys) = st) (hm : ∀ z, z ≠ x → z ≠ n1 → z ≠ n2 → m' z = m₀ z) : UnrEnd h₀ L s₁ I it (Two n1 n2 x m₀ st) { s₁ with heap := h', toks := tk } := by
  subst e
  refine ⟨h', tk, m', [LO a1 v1 k1, LO a2 v2 k2], rfl, F, fun p hp => N p ?_, fun p hp => ?_, a1, v1, k1, a2, v2, k2, rfl, i1, i2, fun z hz => ?_⟩
  · rcases List.mem_cons.mp hp with rfl | hp
    · exact hI
    rcases List.mem_cons.mp hp with rfl | hp
    · exact h1
    · rw [List.mem_singleton.mp hp]; exact h2
  · rcases List.mem_cons.mp hp with rfl | hp
    · exact o1
    · rw [List.mem_singleton.mp hp]; exact o2
  · by_cases q1 : z = n1
    · rw [if_pos q1, q1, e1]
    · rw [if_neg q1]
      by_cases q2 : z = n2
      · rw [if_pos q2, q2, e2]
      · rw [if_neg q2]; exact hm z hz q1 q2
/-- three names; the third is an elder list in the first turn -/
noncomputable def Three (n1 n2 n3 x : Str) (m₀ : Str → Option Value) (b : Addr) (bv : List Value) (h₀ : Heap) (i : Nat) (st : List Int × List Int × List Int) (m : Str → Option Value) (news : List (Addr × Obj)) : Prop :=
  ∃ a1 v1 k1 a2 v2 k2 a3 v3 k3, ((news = [LO a1 v1 k1, LO a2 v2 k2, LO a3 v3 k3]) ∨ (i = 0 ∧ news = [LO a1 v1 k1, LO a2 v2 k2] ∧ a3 = b ∧ v3 = bv ∧ h₀.IsList b bv.toArray)) ∧ IntsAre v1 st.1 ∧ IntsAre v2 st.2.1 ∧ IntsAre v3 st.2.2 ∧
    ∀ z, z ≠ x → m z = if z = n1 then some (.ref a1) else if z = n2 then some (.ref a2) else if z = n3 then some (.ref a3) else m₀ z
theorem range_three {r : Addr} {b₀ : Int} {t₀ u₀ v₀ : Tok} {n : Nat} {m₀ : Str → Option Value} {news : List (Addr × Obj)} {a1 a2 b : Addr} {v1 v2 bv : List Value} {k1 k2 : Nat} (n1 n2 n3 : Str) (st : Nat → List Int × List Int × List Int)
    (hh : A.handled = none) (hr : IsRange s.heap r 0 b₀ 1 t₀ u₀ v₀) (hsmall : Builtin.Range.small 0 b₀ 1 = true) (hn : Builtin.Range.rangeSize 0 b₀ 1 = (n : Int)) (hn1 : 1 ≤ n) (F : Fr h₀ env.locals s.heap m₀) (N : News h₀ env.locals s.heap news)
    (e1 : m₀ n1 = some (.ref a1)) (e2 : m₀ n2 = some (.ref a2)) (e3 : m₀ n3 = some (.ref b)) (h1 : LO a1 v1 k1 ∈ news) (h2 : LO a2 v2 k2 ∈ news) (h3 : h₀.IsList b bv.toArray) (i1 : IntsAre v1 (st 0).1) (i2 : IntsAre v2 (st 0).2.1) (i3 : IntsAre bv (st 0).2.2)
    (turn0 : ∀ I it t a1 v1 k1 a2 v2 k2 h tk, a1 ≠ I → a2 ≠ I → IntsAre v1 (st 0).1 → IntsAre v2 (st 0).2.1 →
      Fr h₀ env.locals h (fun y => if y = x then some (.int (0 : Nat) t) else if y = n1 then some (.ref a1) else if y = n2 then some (.ref a2) else if y = n3 then some (.ref b) else m₀ y) → News h₀ env.locals h [(I, it), LO a1 v1 k1, LO a2 v2 k2] →
      wpAny (model prog w) A (execs body env) (UnrPost h₀ env.locals { s with heap := h, toks := tk } I it (Three n1 n2 n3 x m₀ b bv h₀ 1 (st 1)) Q) E { s with heap := h, toks := tk })
    (turn : ∀ i I it t a1 v1 k1 a2 v2 k2 a3 v3 k3 h tk, i < n → a1 ≠ I → a2 ≠ I → a3 ≠ I → IntsAre v1 (st i).1 → IntsAre v2 (st i).2.1 → IntsAre v3 (st i).2.2 →
      Fr h₀ env.locals h (fun y => if y = x then some (.int (i : Nat) t) else if y = n1 then some (.ref a1) else if y = n2 then some (.ref a2) else if y = n3 then some (.ref a3) else m₀ y) → News h₀ env.locals h [(I, it), LO a1 v1 k1, LO a2 v2 k2, LO a3 v3 k3] →
      wpAny (model prog w) A (execs body env) (UnrPost h₀ env.locals { s with heap := h, toks := tk } I it (Three n1 n2 n3 x m₀ b bv h₀ (i + 1) (st (i + 1))) Q) E { s with heap := h, toks := tk })
    (done : ∀ a1 v1 k1 a2 v2 k2 a3 v3 k3 (u : Str → Option Value) h tk, IntsAre v1 (st n).1 → IntsAre v2 (st n).2.1 → IntsAre v3 (st n).2.2 →
      Fr h₀ env.locals h (fun y => if y = x then u y else if y = n1 then some (.ref a1) else if y = n2 then some (.ref a2) else if y = n3 then some (.ref a3) else m₀ y) → News h₀ env.locals h [LO a1 v1 k1, LO a2 v2 k2, LO a3 v3 k3] →
      Q .next { s with heap := h, toks := tk }) :
    wpAny (model prog w) A (pyIter (.ref r)) (fun it s₂ => LoopAtV prog w A h₀ env x body Q E it s₂) E s := by
  refine range_J (news := [LO a1 v1 k1, LO a2 v2 k2]) (fun i m nx => Three n1 n2 n3 x m₀ b bv h₀ i (st i) m nx) hh hr hsmall hn F (newsSub N fun p hp => ?_)
    ⟨a1, v1, k1, a2, v2, k2, b, bv, 0, .inr ⟨rfl, rfl, rfl, rfl, h3⟩, i1, i2, i3, fun z _ => ?_⟩ ?_ ?_
  · rcases List.mem_cons.mp hp with rfl | hp
    · exact h1
    · rw [List.mem_singleton.mp hp]; exact h2
  · by_cases q1 : z = n1
    · rw [if_pos q1, q1, e1]
    · rw [if_neg q1]
      by_cases q2 : z = n2
      · rw [if_pos q2, q2, e2]
      · rw [if_neg q2]
        by_cases q3 : z = n3
        · rw [if_pos q3, q3, e3]
        · rw [if_neg q3]
  · rintro i I it t m₁ news₁ h tk hi ⟨a1, v1, k1, a2, v2, k2, a3, v3, k3, hc, i1, i2, i3, hm⟩ ho F₁ N₁
    rw [Int.zero_add] at F₁
    rcases hc with rfl | ⟨rfl, rfl, rfl, rfl, _⟩
    · exact turn i I it t a1 v1 k1 a2 v2 k2 a3 v3 k3 h tk hi (ho _ (List.mem_cons_self ..)) (ho _ (List.mem_cons_of_mem _ (List.mem_cons_self ..))) (ho _ (List.mem_cons_of_mem _ (List.mem_cons_of_mem _ (List.mem_cons_self ..)))) i1 i2 i3 (fr_off (v := fun _ => some (.int (i : Nat) t)) F₁ hm) N₁
    · exact turn0 I it t a1 v1 k1 a2 v2 k2 h tk (ho _ (List.mem_cons_self ..)) (ho _ (List.mem_cons_of_mem _ (List.mem_cons_self ..))) i1 i2 (fr_off (v := fun _ => some (.int (0 : Nat) t)) F₁ hm) N₁
  · rintro m₁ news₁ h tk ⟨a1, v1, k1, a2, v2, k2, a3, v3, k3, hc, i1, i2, i3, hm⟩ F₁ N₁
    rcases hc with rfl | ⟨hz, _⟩
    · exact done a1 v1 k1 a2 v2 k2 a3 v3 k3 m₁ h tk i1 i2 i3 (fr_self F₁ hm) N₁
    · omega
theorem end3 {I : Addr} {it : Obj} {m₀ m' : Str → Option Value} {b : Addr} {bv : List Value} {i : Nat} {st : List Int × List Int × List Int} {s₁ : Shared} {h' : Heap} {tk : Nat} {all : List (Addr × Obj)} {a1 a2 a3 : Addr} {v1 v2 v3 : List Value} {k1 k2 k3 : Nat} {xs ys zs : List Int}
    (F : Fr h₀ L h' m') (N : News h₀ L h' all) (e1 : m' n1 = some (.ref a1)) (e2 : m' n2 = some (.ref a2)) (e3 : m' n3 = some (.ref a3)) (hI : (I, it) ∈ all) (h1 : LO a1 v1 k1 ∈ all) (h2 : LO a2 v2 k2 ∈ all) (h3 : LO a3 v3 k3 ∈ all) (o1 : a1 ≠ I) (o2 : a2 ≠ I) (o3 : a3 ≠ I)
    (i1 : IntsAre v1 xs) (i2 : IntsAre v2 ys) (i3 : IntsAre v3 zs) (e : (xs, ys, zs) = st) (hm : ∀ z, z ≠ x → z ≠ n1 → z ≠ n2 → z ≠ n3 → m' z = m₀ z) : UnrEnd h₀ L s₁ I it (Three n1 n2 n3 x m₀ b bv h₀ i st) { s₁ with heap := h', toks := tk } := by
  subst e
  refine ⟨h', tk, m', [LO a1 v1 k1, LO a2 v2 k2, LO a3 v3 k3], rfl, F, fun p hp => N p ?_, fun p hp => ?_, a1, v1, k1, a2, v2, k2, a3, v3, k3, .inl rfl, i1, i2, i3, fun z hz => ?_⟩
  · rcases List.mem_cons.mp hp with rfl | hp
    · exact hI
    rcases List.mem_cons.mp hp with rfl | hp
    · exact h1
    rcases List.mem_cons.mp hp with rfl | hp
    · exact h2
    · rw [List.mem_singleton.mp hp]; exact h3
  · rcases List.mem_cons.mp hp with rfl | hp
    · exact o1
    rcases List.mem_cons.mp hp with rfl | hp
    · exact o2
    · rw [List.mem_singleton.mp hp]; exact o3
  · by_cases q1 : z = n1
    · rw [if_pos q1, q1, e1]
    · rw [if_neg q1]
      by_cases q2 : z = n2
      · rw [if_pos q2, q2, e2]
      · rw [if_neg q2]
        by_cases q3 : z = n3
        · rw [if_pos q3, q3, e3]
        · rw [if_neg q3]; exact hm z hz q1 q2 q3
end
-- Loops3
noncomputable def WEnd {σ : Type} (h₀ : Heap) (L : Addr) (s : Shared) (Led : σ → List (Addr × Obj)) (A1 A2 : σ → Addr) (n1 n2 : Str) (stored : List Str) (m₀ : Str → Option Value) (P : σ → Prop) (μ : σ → Nat) (c : σ) (s₂ : Shared) : Prop :=
  ∃ (c' : σ) (h' : Heap) (tk : Nat) (m' : Str → Option Value) (news' : List (Addr × Obj)), s₂ = { s with heap := h', toks := tk } ∧ Fr h₀ L h' m' ∧ News h₀ L h' news' ∧ (∀ p ∈ Led c', p ∈ news') ∧ m' n1 = some (.ref (A1 c')) ∧ m' n2 = some (.ref (A2 c')) ∧ (∀ z, z ≠ n1 → z ≠ n2 → stored.contains z = false → m' z = m₀ z) ∧ P c' ∧ μ c' < μ c
noncomputable def WPost {σ : Type} (h₀ : Heap) (L : Addr) (s : Shared) (Led : σ → List (Addr × Obj)) (A1 A2 : σ → Addr) (n1 n2 : Str) (stored : List Str) (m₀ : Str → Option Value) (P : σ → Prop) (μ : σ → Nat) (Q : Flow → Shared → Prop) (c : σ) (f : Flow) (s₂ : Shared) : Prop :=
  match f with
  | .ret v => Q (.ret v) s₂
  | .brk => Q .next s₂
  | _ => WEnd h₀ L s Led A1 A2 n1 n2 stored m₀ P μ c s₂
section
variable {prog : Program} {w : World} {A : Around} {E : Value → Shared → Prop} {Q : Flow → Shared → Prop} {s : Shared} {env : Env} {h₀ : Heap} {L : Addr}
/-- a while over two names bound anew to objects -/
theorem while_two {σ : Type} {test : Expr} {body : List Stmt} {pos : Pos} {m₀ : Str → Option Value} {news : List (Addr × Obj)} (Led : σ → List (Addr × Obj)) (A1 A2 : σ → Addr) (n1 n2 : Str) (stored : List Str) (P : σ → Prop) (μ : σ → Nat) (c₀ : σ)
    (F : Fr h₀ L s.heap m₀) (N : News h₀ L s.heap news) (hL : ∀ p ∈ Led c₀, p ∈ news) (e1 : m₀ n1 = some (.ref (A1 c₀))) (e2 : m₀ n2 = some (.ref (A2 c₀))) (hp : P c₀)
    (turn : ∀ (c : σ) (u : Str → Option Value) h tk, P c → Fr h₀ L h (fun y => if y = n1 then some (.ref (A1 c)) else if y = n2 then some (.ref (A2 c)) else if stored.contains y then u y else m₀ y) → News h₀ L h (Led c) →
      wpAny (model prog w) A (isTrue test env (eval test env)) (fun b s₂ =>
        if b = true then wpAny (model prog w) A (execs body env) (WPost h₀ L s Led A1 A2 n1 n2 stored m₀ P μ Q c) E s₂ else Q .next s₂) E { s with heap := h, toks := tk })
    (hE : PassesOwn (model prog w) A env E) :
    wpAny (model prog w) A (exec (.While test body [] pos) env) Q E s := by
  refine While_inv2 (fun n m nx => ∃ c : σ, nx = Led c ∧ μ c = n ∧ m n1 = some (.ref (A1 c)) ∧ m n2 = some (.ref (A2 c)) ∧ (∀ z, z ≠ n1 → z ≠ n2 → stored.contains z = false → m z = m₀ z) ∧ P c) F (newsSub N hL) ⟨c₀, rfl, rfl, e1, e2, fun _ _ _ _ => rfl, hp⟩ ?_ hE
  rintro n m₁ nx h tk F₁ N₁ ⟨c, rfl, rfl, q1, q2, hr, hp'⟩
  have em : m₁ = fun y => if y = n1 then some (.ref (A1 c)) else if y = n2 then some (.ref (A2 c)) else if stored.contains y then m₁ y else m₀ y := by
    funext y
    by_cases h1 : y = n1
    · rw [if_pos h1, h1, q1]
    rw [if_neg h1]
    by_cases h2 : y = n2
    · rw [if_pos h2, h2, q2]
    rw [if_neg h2]
    cases h3 : stored.contains y with
    | true => simp
    | false => simp only [Bool.false_eq_true, if_false]; exact hr y h1 h2 h3
  refine wpAny_mono (turn c m₁ h tk hp' (em ▸ F₁) N₁) (fun b s₂ p => ?_) fun _ _ x => x
  cases b with
  | false => simpa using p
  | true =>
    simp only [if_true] at p ⊢
    refine wpAny_mono p (fun f s₃ q => ?_) fun _ _ x => x
    cases f with
    | ret v => exact q
    | brk => exact q
    | next =>
      obtain ⟨c', h', tk', m', news', rfl, F', N', hn, k1, k2, hr9, hp9, hm9⟩ := q
      exact ⟨h', tk', m', Led c', μ c', rfl, F', newsSub N' hn, hm9, c', rfl, rfl, k1, k2, hr9, hp9⟩
    | cont =>
      obtain ⟨c', h', tk', m', news', rfl, F', N', hn, k1, k2, hr9, hp9, hm9⟩ := q
      exact ⟨h', tk', m', Led c', μ c', rfl, F', newsSub N' hn, hm9, c', rfl, rfl, k1, k2, hr9, hp9⟩
theorem endW {σ : Type} {Led : σ → List (Addr × Obj)} {A1 A2 : σ → Addr} {n1 n2 : Str} {stored : List Str} {m₀ m' : Str → Option Value} {P : σ → Prop} {μ : σ → Nat} {c : σ} {h' : Heap} {tk : Nat} {news' : List (Addr × Obj)} (c' : σ)
    (F : Fr h₀ L h' m') (N : News h₀ L h' news') (e1 : m' n1 = some (.ref (A1 c'))) (e2 : m' n2 = some (.ref (A2 c'))) (hl : ∀ p ∈ Led c', p ∈ news') (hr : ∀ z, z ≠ n1 → z ≠ n2 → stored.contains z = false → m' z = m₀ z) (hp : P c') (hm : μ c' < μ c) :
    WEnd h₀ L s Led A1 A2 n1 n2 stored m₀ P μ c { s with heap := h', toks := tk } := ⟨c', h', tk, m', news', rfl, F, N, hl, e1, e2, hr, hp, hm⟩
end
noncomputable def WEnd3 {σ : Type} (h₀ : Heap) (L : Addr) (s : Shared) (Led : σ → List (Addr × Obj)) (A1 A2 A3 : σ → Value) (n1 n2 n3 : Str) (m₀ : Str → Option Value) (P : σ → Prop) (μ : σ → Nat) (c : σ) (s₂ : Shared) : Prop :=
  ∃ (c' : σ) (h' : Heap) (tk : Nat) (m' : Str → Option Value) (news' : List (Addr × Obj)), s₂ = { s with heap := h', toks := tk } ∧ Fr h₀ L h' m' ∧ News h₀ L h' news' ∧ (∀ p ∈ Led c', p ∈ news') ∧ m' n1 = some (A1 c') ∧ m' n2 = some (A2 c') ∧ m' n3 = some (A3 c') ∧ (∀ z, z ≠ n1 → z ≠ n2 → z ≠ n3 → m' z = m₀ z) ∧ P c' ∧ μ c' < μ c
noncomputable def WPost3 {σ : Type} (h₀ : Heap) (L : Addr) (s : Shared) (Led : σ → List (Addr × Obj)) (A1 A2 A3 : σ → Value) (n1 n2 n3 : Str) (m₀ : Str → Option Value) (P : σ → Prop) (μ : σ → Nat) (Q : Flow → Shared → Prop) (c : σ) (f : Flow) (s₂ : Shared) : Prop :=
  match f with
  | .ret v => Q (.ret v) s₂
  | .brk => Q .next s₂
  | _ => WEnd3 h₀ L s Led A1 A2 A3 n1 n2 n3 m₀ P μ c s₂
section
variable {prog : Program} {w : World} {A : Around} {E : Value → Shared → Prop} {Q : Flow → Shared → Prop} {s : Shared} {env : Env} {h₀ : Heap} {L : Addr}
/-- a while over three names bound anew to values -/
theorem while_three {σ : Type} {test : Expr} {body : List Stmt} {pos : Pos} {m₀ : Str → Option Value} {news : List (Addr × Obj)} (Led : σ → List (Addr × Obj)) (A1 A2 A3 : σ → Value) (n1 n2 n3 : Str) (P : σ → Prop) (μ : σ → Nat) (c₀ : σ)
    (F : Fr h₀ L s.heap m₀) (N : News h₀ L s.heap news) (hL : ∀ p ∈ Led c₀, p ∈ news) (e1 : m₀ n1 = some (A1 c₀)) (e2 : m₀ n2 = some (A2 c₀)) (e3 : m₀ n3 = some (A3 c₀)) (hp : P c₀)
    (turn : ∀ (c : σ) h tk, P c → Fr h₀ L h (fun y => if y = n1 then some (A1 c) else if y = n2 then some (A2 c) else if y = n3 then some (A3 c) else m₀ y) → News h₀ L h (Led c) →
      wpAny (model prog w) A (isTrue test env (eval test env)) (fun b s₂ =>
        if b = true then wpAny (model prog w) A (execs body env) (WPost3 h₀ L s Led A1 A2 A3 n1 n2 n3 m₀ P μ Q c) E s₂ else Q .next s₂) E { s with heap := h, toks := tk })
    (hE : PassesOwn (model prog w) A env E) :
    wpAny (model prog w) A (exec (.While test body [] pos) env) Q E s := by
  refine While_inv2 (fun n m nx => ∃ c : σ, nx = Led c ∧ μ c = n ∧ m n1 = some (A1 c) ∧ m n2 = some (A2 c) ∧ m n3 = some (A3 c) ∧ (∀ z, z ≠ n1 → z ≠ n2 → z ≠ n3 → m z = m₀ z) ∧ P c) F (newsSub N hL) ⟨c₀, rfl, rfl, e1, e2, e3, fun _ _ _ _ => rfl, hp⟩ ?_ hE
  rintro n m₁ nx h tk F₁ N₁ ⟨c, rfl, rfl, q1, q2, q3, hr, hp'⟩
  have em : m₁ = fun y => if y = n1 then some (A1 c) else if y = n2 then some (A2 c) else if y = n3 then some (A3 c) else m₀ y := by
    funext y
    by_cases h1 : y = n1
    · rw [if_pos h1, h1, q1]
    rw [if_neg h1]
    by_cases h2 : y = n2
    · rw [if_pos h2, h2, q2]
    rw [if_neg h2]
    by_cases h3 : y = n3
    · rw [if_pos h3, h3, q3]
    rw [if_neg h3]
    exact hr y h1 h2 h3
  refine wpAny_mono (turn c h tk hp' (em ▸ F₁) N₁) (fun b s₂ p => ?_) fun _ _ x => x
  cases b with
  | false => exact p
  | true =>
    refine wpAny_mono p (fun f s₃ q => ?_) fun _ _ x => x
    cases f with
    | ret v => exact q
    | brk => exact q
    | next =>
      obtain ⟨c', h', tk', m', news', rfl, F', N', hn, k1, k2, k3, hr9, hp9, hm9⟩ := q
      exact ⟨h', tk', m', Led c', μ c', rfl, F', newsSub N' hn, hm9, c', rfl, rfl, k1, k2, k3, hr9, hp9⟩
    | cont =>
      obtain ⟨c', h', tk', m', news', rfl, F', N', hn, k1, k2, k3, hr9, hp9, hm9⟩ := q
      exact ⟨h', tk', m', Led c', μ c', rfl, F', newsSub N' hn, hm9, c', rfl, rfl, k1, k2, k3, hr9, hp9⟩
theorem endW3 {σ : Type} {Led : σ → List (Addr × Obj)} {A1 A2 A3 : σ → Value} {n1 n2 n3 : Str} {m₀ m' : Str → Option Value} {P : σ → Prop} {μ : σ → Nat} {c : σ} {h' : Heap} {tk : Nat} {news' : List (Addr × Obj)} (c' : σ)
    (F : Fr h₀ L h' m') (N : News h₀ L h' news') (e1 : m' n1 = some (A1 c')) (e2 : m' n2 = some (A2 c')) (e3 : m' n3 = some (A3 c')) (hl : ∀ p ∈ Led c', p ∈ news') (hr : ∀ z, z ≠ n1 → z ≠ n2 → z ≠ n3 → m' z = m₀ z) (hp : P c') (hm : μ c' < μ c) :
    WEnd3 h₀ L s Led A1 A2 A3 n1 n2 n3 m₀ P μ c { s with heap := h', toks := tk } := ⟨c', h', tk, m', news', rfl, F, N, hl, e1, e2, e3, hr, hp, hm⟩
end
local macro_rules | `(tactic| walk_at $k:str) => if ["execs cons", "exec Assign", "exec Return", "exec If", "eval Tuple"].contains k.getString then `(tactic| k_fold) else if ["call type:enumerate", "call ref", "pyIter ref", "InvEndN", "WEnd", "WEnd3", "compareOp NotEq ref ref", "compareOp Eq ref ref", "assign Tuple", "CompSrc", "JDraw", "JCut", "FinE", "CompEnd"].contains k.getString then `(tactic| k_extra $k) else if ["WPost", "WPost3"].contains k.getString then `(tactic| dsimp only [WPost, WPost3]) else if k.getString == "subscriptTail Name Call ref int" then `(tactic| k_extra "subscriptTail") else Lean.Macro.throwUnsupported
local macro_rules | `(tactic| walk_at "eval Call") => `(tactic| ((fail_if_success (with_reducible show wpAny _ _ _ (fun xv s₁ => wpAny _ _ (pyIter xv) _ _ _) _ _)); k_fold))
local macro_rules | `(tactic| k_all) => `(tactic| (refine List.forall_mem_append.mpr ⟨?_, ?_⟩ <;> k_all))
local macro_rules | `(tactic| k_room) => `(tactic| first | omega | (dsimp only [Around.deeper]; omega) | (simp only [depth_under_make, depth_under_kw, depth_in1, depth_deeper, depth_caller]; omega))
local macro_rules | `(tactic| walk_at "execs cons") => `(tactic| k_extra "execs cons")
-- Smtrim
set_option maxHeartbeats 8000000 in
theorem spec_mtrim (a : Addr) (ns : List Int) (hlen : ns.length < 1000000) : Spec 1 55 [.ref a] (fun h => LI h a ns) (NewL (trimF ns)) := by
  k_with_none
  w_top off
  refine' spec_of (binds := [(Str.ofString "a", Value.ref a)]) ?ho ?hcd ?hb ?hl ?main ?h1 ?hc ?c1 ?c2 ?c3
  case ho => intro P; rfl
  case hcd => intro P; rfl
  case hb => intro s; exact BindsTo.of_eq rfl
  case hl => exact locs rfl
  case h1 => decide
  case hc => decide
  case c1 => rfl
  case c2 => rfl
  case c3 => rfl
  k_fill
  intro w mean mg mb dp un gd A₀ base g outer L' h₁ s tk hdp hun hpre F N B X T
  obtain ⟨sh, gs, dr, stk, os⟩ := s
  refine li1 hpre fun vs hL hI => ?_
  (try dsimp only)
  k_fold
  k_steps
  rename_i k t h2 tk2 hk1 hk2 hk3 hk4 hk5 D ws h3 hI3 hC3 hL3 l3 D' c' h4 F4 N4 l4
  refine fin_list F4 N4 (by k_mem) hI3 (trim_take (by omega) hk1 (fun j h1 h2 => ?_) (fun h1 => ?_))
  · have := hk3 j h1 h2
    split at this
    · split at this
      · rename_i e; exact eq_of_beq e
      · cases this
    · cases this
  · rw [if_pos h1] at hk4
    split at hk4
    · cases hk4
    · rename_i e; intro q; exact e (by rw [q]; rfl)
-- Smadd
set_option maxHeartbeats 8000000 in
theorem spec_madd (a b : Addr) (p : Int) (tp : Tok) (xs ys : List Int) (hx : xs.length ≤ 400) (hy : ys.length ≤ 400) (hp : 2 ≤ p) (hp3 : p ≤ 3) : Spec 2 69 [.ref a, .ref b, .int p tp] (fun h => LI h a xs ∧ LI h b ys) (NewL (maddF p xs ys)) := by
  k_with_none
  w_top off
  refine' spec_of (binds := [(Str.ofString "a", Value.ref a), (Str.ofString "b", Value.ref b), (Str.ofString "p", Value.int p tp)]) ?ho ?hcd ?hb ?hl ?main ?h1 ?hc ?c1 ?c2 ?c3
  case ho => intro P; rfl
  case hcd => intro P; rfl
  case hb => intro s; exact BindsTo.of_eq rfl
  case hl => exact locs rfl
  case h1 => decide
  case hc => decide
  case c1 => rfl
  case c2 => rfl
  case c3 => rfl
  k_fill
  intro w mean mg mb dp un gd A₀ base g outer L' h₁ s tk hdp hun hpre F N B X T
  obtain ⟨sh, gs, dr, stk, os⟩ := s
  k_with "call ref" => ((with_reducible show wpAny _ _ (call (Value.ref 55) _) _ _ _); (with_unfolding_all refine' use_list (spec_mtrim _ _ ?len) ?B ?F ?X ?N ?T ?hA ?hf ?hk ?hh ?hd ?hu ?hp ?_); (case B => k_asm); (case F => k_asm); (case X => k_asm); (case N => k_asm); (case T => k_asm); (case hA => with_unfolding_all exact rfl); (case hf => with_unfolding_all exact rfl); (case hk => with_unfolding_all exact rfl); (case hh => with_unfolding_all exact rfl); (case hp => (refine' LI.of ?l0 ?i0; (case l0 => first | is_list | k_dflt is_list); (case i0 => l_ints))); (case len => (rw [add_fold, add_length]; omega)); (case hd => first | exact roomD hdp (by decide) | omega | (dsimp only; omega)); (case hu => first | exact roomU hun (by decide) | omega | (dsimp only; omega)); intro ac vsc nc hc tkc F' N' ne' I'; (replace ne' := allNe_of ne'); (dsimp only [AllNe] at ne'); (have iL' := I'.length); (try dsimp only); (try k_sweep))
  refine li2 hpre fun vs hL hI ws hL2 hI2 => ?_
  (try dsimp only)
  k_fold
  k_steps
  all_goals (try first
    | (exact fin_list (by assumption) (by assumption) (by k_mem) (by l_ints) (by (rw [add_fold]; rfl))))
-- Smneg
set_option maxHeartbeats 8000000 in
theorem spec_mneg (a : Addr) (p : Int) (tp : Tok) (xs : List Int) (hx : xs.length ≤ 400) (hp : 2 ≤ p) (hp3 : p ≤ 3) : Spec 2 74 [.ref a, .int p tp] (fun h => LI h a xs) (NewL (negF p xs)) := by
  k_with_none
  w_top off
  refine' spec_ofC (binds := [(Str.ofString "a", Value.ref a), (Str.ofString "p", Value.int p tp)]) ?ho ?hcd ?hb ?hl ?hn ?main ?h1 ?c1 ?c2 ?c3
  case ho => intro P; rfl
  case hcd => intro P; rfl
  case hb => intro s; exact BindsTo.of_eq rfl
  case hl => exact rfl
  case hn => decide +kernel
  case h1 => decide
  case c1 => rfl
  case c2 => rfl
  case c3 => rfl
  k_fill
  intro w mean mg mb dp un gd A₀ base g outer L' h₁ s tk cells hdp hun hpre F N Y B X T
  obtain ⟨sh, gs, dr, stk, os⟩ := s
  k_cells Y
  (try simp only [List.cons_append, List.nil_append] at N)
  refine li1 hpre fun vs hL hI => ?_
  (try dsimp only)
  (with_reducible show wpAny _ _ _ _ _ _)
  k_fold
  k_steps
  all_goals (try first
    | (exact fin_list (by assumption) (by assumption) (by k_mem) (by l_ints) (by (rfl))))
  all_goals trace_state
-- Smscale
set_option maxHeartbeats 8000000 in
theorem spec_mscale (a : Addr) (c p : Int) (tc tp : Tok) (xs : List Int) (hx : xs.length ≤ 400) (hc : 0 ≤ c ∧ c < 3) (hp : 2 ≤ p) (hp3 : p ≤ 3) (h1 : Sm xs) : Spec 2 86 [.ref a, .int c tc, .int p tp] (fun h => LI h a xs) (NewL (mscaleF p c xs)) := by
  k_with_none
  w_top off
  refine' spec_ofC (binds := [(Str.ofString "a", Value.ref a), (Str.ofString "number", Value.int c tc), (Str.ofString "p", Value.int p tp)]) ?ho ?hcd ?hb ?hl ?hn ?main ?h1 ?c1 ?c2 ?c3
  case ho => intro P; rfl
  case hcd => intro P; rfl
  case hb => intro s; exact BindsTo.of_eq rfl
  case hl => exact rfl
  case hn => decide +kernel
  case h1 => decide
  case c1 => rfl
  case c2 => rfl
  case c3 => rfl
  k_fill
  intro w mean mg mb dp un gd A₀ base g outer L' h₁ s tk cells hdp hun hpre F N Y B X T
  obtain ⟨sh, gs, dr, stk, os⟩ := s
  k_cells Y
  (try simp only [List.cons_append, List.nil_append] at N)
  k_with "call ref" => ((with_reducible show wpAny _ _ (call (Value.ref 55) _) _ _ _); (with_unfolding_all refine' use_list (spec_mtrim _ _ ?len) ?B ?F ?X ?N ?T ?hA ?hf ?hk ?hh ?hd ?hu ?hp ?_); (case B => k_asm); (case F => k_asm); (case X => k_asm); (case N => k_asm); (case T => k_asm); (case hA => with_unfolding_all exact rfl); (case hf => with_unfolding_all exact rfl); (case hk => with_unfolding_all exact rfl); (case hh => with_unfolding_all exact rfl); (case hp => (refine' LI.of ?l0 ?i0; (case l0 => first | is_list | k_dflt is_list); (case i0 => l_ints))); (case len => (simp only [List.length_map]; omega)); (case hd => first | exact roomD hdp (by decide) | omega | (dsimp only; omega)); (case hu => first | exact roomU hun (by decide) | omega | (dsimp only; omega)); intro ac vsc nc hc tkc F' N' ne' I'; (replace ne' := allNe_of ne'); (dsimp only [AllNe] at ne'); (have iL' := I'.length); (try dsimp only); (try k_sweep))
  refine li1 hpre fun vs hL hI => ?_
  (try dsimp only)
  (with_reducible show wpAny _ _ _ _ _ _)
  k_fold
  k_steps
  all_goals (try first
    | (exact fin_list (by assumption) (by assumption) (by k_mem) (by l_ints) (by (rfl))))
  all_goals trace_state
-- Sext
theorem mem2 {α : Type} {a b : α} {l : List α} (h1 : a ∈ l) (h2 : b ∈ l) : ∀ p ∈ [a, b], p ∈ l := fun p hp => (List.mem_cons.mp hp).elim (fun e => e ▸ h1) fun hp => (List.mem_singleton.mp hp) ▸ h2
structure S41 where
  T1 : Addr
  T2 : Addr
  x0 : Int
  x1 : Int
  x2 : Int
  y0 : Int
  y1 : Int
  y2 : Int
  t0 : Tok
  t1 : Tok
  t2 : Tok
  s0 : Tok
  s1 : Tok
  s2 : Tok
noncomputable def NewX (x p : Int) (g h' : Heap) (r : Value) : Prop := ∃ c s t t0 t1 t2, r = .ref c ∧ g.get? c = none ∧ h'.get? c = some { cls := .type "tuple", data := .seq #[.int 1 t0, .int s t1, .int t t2] } ∧ s.fmod p = x ∧ -3 ≤ s ∧ s ≤ 3
theorem toNat_lt {a b : Int} (h : a < b) (hb : 0 < b) : a.toNat < b.toNat := by omega
theorem fin_x {g h' : Heap} {L' c : Addr} {m' : Str → Option Value} {s : Shared} {news : List (Addr × Obj)} {x p o a b : Int} {t0 t1 t2 : Tok} {tk : Nat} (F : Fr g L' h' m') (N : News g L' h' news) (hc : (c, { cls := .type "tuple", data := .seq #[.int o t0, .int a t1, .int b t2] }) ∈ news)
    (h1 : o = 1) (h2 : a.fmod p = x) (h3 : -3 ≤ a) (h4 : a ≤ 3) : Fin g s (NewX x p) (.ref c) ⟨h', s.gens, s.drawn, tk, s.os⟩ := by
  subst h1
  exact ⟨h', tk, rfl, F.keep, c, a, b, t0, t1, t2, rfl, (N _ hc).2.2, (N _ hc).1, h2, h3, h4⟩
theorem use_x {w : World} {mean : ExcName → Option Value} {mg mb : Str → Option Value} {A A₀ : Around} {base h₀ : Heap} {outer : List Env} {L : Addr} {m : Str → Option Value} {env : Env} {s : Shared} {news : List (Addr × Obj)}
    {d : Nat} {f : Addr} {vs : List Value} {pre : Heap → Prop} {Q : Value → Shared → Prop} {E : Value → Shared → Prop} {x p : Int} (S : Spec d f vs pre (NewX x p)) (B : Below A₀ base outer h₀) (F : Fr h₀ L s.heap m) (X : (K w.params).In h₀) (N : News h₀ L s.heap news) (T : Top hd.view_39 lse mean mg mb h₀)
    (hA : A.frames = some (env :: outer)) (hf : env.frame = some L) (hk : env.scope.kind = .function) (hh : A.handled = none) (hdp : A.depth + d < recursionLimit) (hun : A.units + 8 * d < cLine) (hp : pre s.heap)
    (ret : ∀ c z t t0 t1 t2 h' tk, Fr h₀ L h' m → News h₀ L h' ((c, { cls := .type "tuple", data := .seq #[.int 1 t0, .int z t1, .int t t2] }) :: news) → z.fmod p = x → -3 ≤ z → z ≤ 3 → Q (.ref c) { s with heap := h', toks := tk }) :
    wpAny (model PySem.Challenge.rw_sa0088_01.row.prog w) A (call (.ref f) vs) Q E s := by
  refine use_spec S B F X N T hA hf hk hh hdp hun hp fun r h' tk hpost hs F' N' => ?_
  obtain ⟨c, z, t, t0, t1, t2, rfl, hc, oc, h1, h2, h3⟩ := hpost
  obtain ⟨c1, c2, c3⟩ := new_facts F N hc
  refine ret c z t t0 t1 t2 h' tk F' (fun p hp => ?_) h1 h2 h3
  rcases List.mem_cons.mp hp with rfl | hp
  · exact ⟨oc, c1, c2⟩
  · exact N' p hp
set_option maxHeartbeats 8000000 in
theorem spec_ext (x p : Int) (tx tp : Tok) (hv : InvOK x p) : Spec 1 41 [.int x tx, .int p tp] (fun _ => True) (NewX x p) := by
  k_with_none
  w_top off
  refine' spec_of (binds := [(Str.ofString "a", Value.int x tx), (Str.ofString "b", Value.int p tp)]) ?ho ?hcd ?hb ?hl ?main ?h1 ?hc ?c1 ?c2 ?c3
  case ho => intro P; rfl
  case hcd => intro P; rfl
  case hb => intro s; exact BindsTo.of_eq rfl
  case hl => exact locs rfl
  case h1 => decide
  case hc => decide
  case c1 => rfl
  case c2 => rfl
  case c3 => rfl
  k_fill
  intro w mean mg mb dp un gd A₀ base g outer L' h₁ s tk hdp hun hpre F N B X T
  obtain ⟨sh, gs, dr, stk, os⟩ := s
  have hbx : 1 ≤ x ∧ x ≤ 2 ∧ 2 ≤ p ∧ p ≤ 3 := by rcases hv with ⟨rfl, rfl⟩ | ⟨rfl, rfl⟩ | ⟨rfl, rfl⟩ <;> decide
  have hall := eL_all hv
  have hst := eL_start hv
  k_with "exec While Compare cons nil" => (k_here; (rename Fr _ _ _ _ => lF'); (rename News _ _ _ _ => lN'); (with_unfolding_all refine' while_two (σ := S41) (fun c => [(c.T1, ({ cls := Value.type "tuple", data := Data.seq #[Value.int c.x0 c.t0, Value.int c.x1 c.t1, Value.int c.x2 c.t2] } : Obj)), (c.T2, ({ cls := Value.type "tuple", data := Data.seq #[Value.int c.y0 c.s0, Value.int c.y1 c.s1, Value.int c.y2 c.s2] } : Obj))]) (fun c => c.T1) (fun c => c.T2) (Str.ofString "one") (Str.ofString "other") [Str.ofString "times", Str.ofString "rest"] (fun c => (⟨c.x0, c.x1, c.x2, c.y0, c.y1, c.y2⟩ : E6) ∈ eL x p) (fun c => c.y0.toNat) (⟨_, _, x, 1, 0, p, 0, 1, _, _, _, _, _, _⟩ : S41) lF' lN' (mem2 ?m1 ?m2) ?e1 ?e2 hst ?_ (by passes_own)); (case e1 => with_unfolding_all exact rfl); (case e2 => with_unfolding_all exact rfl); (case m1 => with_unfolding_all k_mem); (case m2 => with_unfolding_all k_mem); (rintro ⟨T19, T29, x09, x19, x29, y09, y19, y29, t09, t19, t29, s09, s19, s29⟩ u9 h9 tk9 hP9 F9 N9); (try clear lF' lN'); (have hA9 := hall _ hP9); (have hB9 := hA9.1); (have hD9 := hA9.2.1); (have hZ9 := hA9.2.2.1); (have hS9 := hA9.2.2.2); (clear hA9); (try dsimp only at hB9 hD9 hZ9 F9 N9); (try dsimp only); (try k_fold))
  k_with "WEnd" => ((with_reducible show WEnd _ _ _ _ _ _ _ _ _ _ _ _ _ _); refine Mine.stopAt ?_)
  (try dsimp only)
  (with_reducible show wpAny _ _ _ _ _ _)
  k_fold
  k_steps
  all_goals (try ((with_reducible show StopAt _); (refine stopOff ?_); (have hne9 : y09 ≠ 0 := by first | assumption | omega | simp_all); (have hin9 := (hS9 hne9).1); (have hlt9 := (hS9 hne9).2); (refine' endW (⟨_, _, _, _, _, _, _, _, _, _, _, _, _, _⟩ : S41) (by assumption) (by assumption) ?e1 ?e2 (mem2 ?m1 ?m2) ?hr ?hp ?hm); (case e1 => with_unfolding_all exact rfl); (case e2 => with_unfolding_all exact rfl); (case m1 => k_mem); (case m2 => k_mem); (case hr => (intro z h1 h2 h3; (have h4 := h3); (simp only [List.contains_cons, List.contains_nil, Bool.or_false, Bool.or_eq_false_iff, beq_eq_false_iff_ne] at h4); first | (simp only [if_neg h1, if_neg h2, if_neg h4.1, if_neg h4.2, h3, Bool.false_eq_true, if_false]; done) | (simp_all; done))); (case hp => exact hin9); (case hm => exact toNat_lt hlt9 (show (0 : Int) < y09 by omega))))
  all_goals (try (exact fin_x (by assumption) (by assumption) (by k_mem) (hZ9 (by first | assumption | omega | simp_all)).1 (hZ9 (by first | assumption | omega | simp_all)).2 (by omega) (by omega)))
  all_goals (try (exfalso; omega))
  all_goals trace_state
-- Sinv
set_option maxHeartbeats 8000000 in
theorem spec_inv (x p : Int) (tx tp : Tok) (h : InvOK x p) : Spec 2 48 [.int x tx, .int p tp] (fun _ => True) (IntR x) := by
  k_with_none
  w_top off
  refine' spec_of (binds := [(Str.ofString "a", Value.int x tx), (Str.ofString "m", Value.int p tp)]) ?ho ?hcd ?hb ?hl ?main ?h1 ?hc ?c1 ?c2 ?c3
  case ho => intro P; rfl
  case hcd => intro P; rfl
  case hb => intro s; exact BindsTo.of_eq rfl
  case hl => exact locs rfl
  case h1 => decide
  case hc => decide
  case c1 => rfl
  case c2 => rfl
  case c3 => rfl
  k_fill
  intro w mean mg mb dp un gd A₀ base g outer L' h₁ s tk hdp hun hpre F N B X T
  obtain ⟨sh, gs, dr, stk, os⟩ := s
  have hbx : 1 ≤ x ∧ x ≤ 2 ∧ 2 ≤ p ∧ p ≤ 3 := by rcases h with ⟨rfl, rfl⟩ | ⟨rfl, rfl⟩ | ⟨rfl, rfl⟩ <;> decide
  have hmx : x.fmod p = x := by rcases h with ⟨rfl, rfl⟩ | ⟨rfl, rfl⟩ | ⟨rfl, rfl⟩ <;> decide
  k_with "call ref" => ((with_reducible show wpAny _ _ (call (Value.ref 41) _) _ _ _); (with_unfolding_all refine' use_x (spec_ext _ _ _ _ ?iv) ?B ?F ?X ?N ?T ?hA ?hf ?hk ?hh ?hd ?hu ?hp ?_); (case B => k_asm); (case F => k_asm); (case X => k_asm); (case N => k_asm); (case T => k_asm); (case hA => with_unfolding_all exact rfl); (case hf => with_unfolding_all exact rfl); (case hk => with_unfolding_all exact rfl); (case hh => with_unfolding_all exact rfl); (case hp => trivial); (case iv => (rw [hmx]; exact h)); (case hd => first | exact roomD hdp (by decide) | omega | (dsimp only; omega)); (case hu => first | exact roomU hun (by decide) | omega | (dsimp only; omega)); intro cc zc dc t0c t1c t2c hc tkc F' N' hzc hloc hhic; (try dsimp only); (try k_sweep))
  (try dsimp only)
  (with_reducible show wpAny _ _ _ _ _ _)
  k_fold
  k_steps
  all_goals (try first
    | (exact fin_int (by assumption) (by (first | assumption | omega | (rw [hmx] at *; assumption)))))
  all_goals trace_state
-- Smmul
theorem mul_len (x y : Nat) : ((x : Int) + (y : Int) - 1).toNat = x + y - 1 := Int.toNat_sub (x + y) 1
theorem mul_small {x y l : Nat} (h : l = x + y - 1) (hx : x ≤ 100) (hy : y ≤ 100) : l < 1000000 := by omega
theorem mul_facts {x y a i j : Nat} (hi : i < x) (hj : j < y) (ha : a = x + y - 1) (hx : x ≤ 100) (hy : y ≤ 100) : 0 ≤ (i : Int) + (j : Int) ∧ (i : Int) + (j : Int) < (a : Int) ∧ (i : Int) + (j : Int) ≤ 300 := by omega
theorem mmul0_e1 {p : Int} {xs ys : List Int} (h : (xs.length : Int) = 0) : [] = mmulF0 p xs ys := by unfold mmulF0; rw [if_pos (by omega)]
theorem mmul0_e2 {p : Int} {xs ys : List Int} (h : (ys.length : Int) = 0) : [] = mmulF0 p xs ys := by unfold mmulF0; rw [if_pos (c := ys.length = 0) (by omega), ite_self]
theorem mmul0_e3 {p : Int} {xs ys : List Int} (h : (xs.length : Int) ≠ 0) (h' : (ys.length : Int) ≠ 0) : trimF (foldI (mulO p ys) xs 0 (List.replicate ((xs.length : Int) + (ys.length : Int) - 1).toNat 0)) = mmulF0 p xs ys := by unfold mmulF0; rw [if_neg (by omega), if_neg (by omega), mul_len]
theorem ints_replicate (n : Nat) (c : Int) (t : Tok) : IntsAre (List.replicate n [Value.int c t]).flatten (List.replicate n c) := by
  induction n with
  | zero => exact IntsAre.nil
  | succ n ih => rw [List.replicate_succ, List.replicate_succ, List.flatten_cons]; exact IntsAre.cons _ _ ih
set_option maxHeartbeats 8000000 in
theorem spec_mmul0 (a b : Addr) (p : Int) (tp : Tok) (xs ys : List Int) (hx : xs.length ≤ 100) (hy : ys.length ≤ 100) (hp : 2 ≤ p) (hp3 : p ≤ 3) (h1 : ∀ x ∈ xs, 0 ≤ x ∧ x < 3) (h2 : ∀ x ∈ ys, 0 ≤ x ∧ x < 3) : Spec 2 93 [.ref a, .ref b, .int p tp] (fun h => LI h a xs ∧ LI h b ys) (NewL (mmulF0 p xs ys)) := by
  k_with_none
  w_top off
  refine' spec_of (binds := [(Str.ofString "a", Value.ref a), (Str.ofString "b", Value.ref b), (Str.ofString "p", Value.int p tp)]) ?ho ?hcd ?hb ?hl ?main ?h1 ?hc ?c1 ?c2 ?c3
  case ho => intro P; rfl
  case hcd => intro P; rfl
  case hb => intro s; exact BindsTo.of_eq rfl
  case hl => exact locs rfl
  case h1 => decide
  case hc => decide
  case c1 => rfl
  case c2 => rfl
  case c3 => rfl
  k_fill
  intro w mean mg mb dp un gd A₀ base g outer L' h₁ s tk hdp hun hpre F N B X T
  obtain ⟨sh, gs, dr, stk, os⟩ := s
  refine li2 hpre fun vs hL hI ws hL2 hI2 => ?_
  k_with "call type:enumerate" => ((with_reducible show wpAny _ _ (call (Value.type "enumerate") [Value.ref _]) (fun xv s₁ => wpAny _ _ (pyIter xv) (fun it s₂ => PairAt3 _ _ _ _ _ (Str.ofString "at") (Str.ofString "one") _ _ _ it s₂) _ s₁) _ _); (rename Fr _ _ _ _ => lF'); (rename News _ _ _ _ => lN'); (with_unfolding_all refine' enum_list (pre := []) [Str.ofString "spot", Str.ofString "other"] (fun st => st.length = xs.length + ys.length - 1) (mulO p ys) ?hh ?hl ?hi lF' lN' (ints_replicate _ _ _) ?hp ?hps (fun i9 n9 t9 t89 a9 us9 nn9 u9 h9 tk9 own9 hn9 hmem9 hlt9 hP9 hoff9 hIs9 F9 N9 => ?_) (fun u9 us9 nn9 h9 tk9 hIs9 hP9 F9 N9 => ?_)); (case hh => exact rfl); (case hl => assumption); (case hi => assumption); (case hp => exact (List.length_replicate ..).trans (mul_len _ _)); (case hps => (intro a i n h1 h2; rw [mulO_length]; exact h2)); (all_goals (try clear lF' lN')); (all_goals (try (rename ((_ : Int) < 0 → _) => hz9; clear hz9))); (all_goals (try (rename (0 ≤ (_ : Int) → _) => hz9; clear hz9))); (all_goals (try (rename ((List.flatten _).length = _) => hz9; clear hz9))); (all_goals (try (rename ((List.toArray (List.flatten _)).size = _) => hz9; clear hz9))); (all_goals (try simp only [List.nil_append, List.cons_append] at N9)); (all_goals (try simp only [List.nil_append, List.cons_append, List.map_nil, List.map_cons] at hoff9)); (all_goals (try (have hb9 := h1 _ hmem9))); (all_goals (try dsimp only at hP9)); (all_goals (try skip)); (all_goals (try dsimp only)); (all_goals (try k_fold)))
  k_with "call type:enumerate" => ((with_reducible show wpAny _ _ (call (Value.type "enumerate") [Value.ref _]) (fun xv s₁ => wpAny _ _ (pyIter xv) (fun it s₂ => PairAt3 _ _ _ _ _ (Str.ofString "spot") (Str.ofString "other") _ _ _ it s₂) _ s₁) _ _); (rename Fr _ _ _ _ => lF'); (rename News _ _ _ _ => lN'); (with_unfolding_all refine' enum_list (pre := []) [] (fun st => st.length = xs.length + ys.length - 1) (mulI p i9 n9) ?hh ?hl ?hi lF' lN' hIs9 ?hp ?hps (fun i7 n7 t7 t87 a7 us7 nn7 u7 h7 tk7 own7 hn7 hmem7 hlt7 hP7 hoff7 hIs7 F7 N7 => ?_) (fun u7 us7 nn7 h7 tk7 hIs7 hP7 F7 N7 => ?_)); (case hh => exact rfl); (case hl => assumption); (case hi => assumption); (case hp => exact hP9); (case hps => (intro a i n h1 h2; rw [mulI_length]; exact h2)); (all_goals (try clear lF' lN')); (all_goals (try (rename ((_ : Int) < 0 → _) => hz9; clear hz9))); (all_goals (try (rename (0 ≤ (_ : Int) → _) => hz9; clear hz9))); (all_goals (try (rename ((List.flatten _).length = _) => hz9; clear hz9))); (all_goals (try (rename ((List.toArray (List.flatten _)).size = _) => hz9; clear hz9))); (all_goals (try simp only [List.nil_append, List.cons_append] at N7)); (all_goals (try simp only [List.nil_append, List.cons_append, List.map_nil, List.map_cons] at hoff7)); (all_goals (try (have hb7 := h2 _ hmem7))); (all_goals (try dsimp only at hP7)); (all_goals (try (have hkz7 := mul_facts hlt9 hlt7 hP7 hx hy; have hk07 := hkz7.1; have hk17 := hkz7.2.1; have hk27 := hkz7.2.2; clear hkz7 hlt7))); (all_goals (try dsimp only)); (all_goals (try k_fold)))
  k_with "call ref" => ((with_reducible show wpAny _ _ (call (Value.ref 55) _) _ _ _); (with_unfolding_all refine' use_list (spec_mtrim _ _ ?len) ?B ?F ?X ?N ?T ?hA ?hf ?hk ?hh ?hd ?hu ?hp ?_); (case B => k_asm); (case F => k_asm); (case X => k_asm); (case N => k_asm); (case T => k_asm); (case hA => with_unfolding_all exact rfl); (case hf => with_unfolding_all exact rfl); (case hk => with_unfolding_all exact rfl); (case hh => with_unfolding_all exact rfl); (case hp => (refine' LI.of ?l0 ?i0; (case l0 => first | is_list | k_dflt is_list); (case i0 => l_ints))); (case len => exact mul_small hP9 hx hy); (case hd => first | exact roomD hdp (by decide) | omega | (dsimp only; omega)); (case hu => first | exact roomU hun (by decide) | omega | (dsimp only; omega)); intro ac vsc nc hc tkc F' N' ne' I'; (replace ne' := allNe_of ne'); (dsimp only [AllNe] at ne'); (have iL' := I'.length); (try dsimp only); (try k_sweep))
  (try dsimp only)
  k_fold
  k_steps

  all_goals (try first
    | ((with_reducible show InvEndN _ _ _ _ _ _ _); (refine endN (pre := []) (by assumption) (by assumption) (by k_mem) (by l_ints) ?e (fun _ hp => nomatch hp) ?hn ?ho ?hm; (case e => rfl); (case hn => first | ((repeat (refine mcons (by k_mem) ?_)); first | exact mnil | (intro p hp; (repeat (first | exact hp | exact List.mem_append_left _ hp | refine List.mem_cons_of_mem _ ?_ | refine List.mem_append_right _ ?_)); done)) | (intro p hp; (try simp only [List.mem_cons, List.mem_append, List.nil_append, List.cons_append] at hp ⊢); (try (generalize p = q9 at *)); grind)); (case ho => first | ((repeat (refine mcons (by k_mem) ?_)); first | exact mnil | (intro p hp; (repeat (first | exact hp | exact List.mem_append_left _ hp | refine List.mem_cons_of_mem _ ?_ | refine List.mem_append_right _ ?_)); done)) | (intro p hp; (try simp only [List.mem_cons, List.mem_append, List.nil_append, List.cons_append] at hp ⊢); (try (generalize p = q9 at *)); grind)); (case hm => (intro z h1 h2 h3; (try simp only [List.contains_cons, List.contains_nil, Bool.or_false, Bool.or_eq_false_iff, beq_eq_false_iff_ne] at h3); (try simp only [if_neg h1, if_neg h2]); first | rfl | (simp_all; done)))))
    | ((with_reducible show InvEndN _ _ _ _ _ _ _); (refine endN (pre := []) (by assumption) (by assumption) (by k_mem) (by l_ints) ?e (fun _ hp => nomatch hp) ?hn ?ho ?hm; (case e => (unfold mulO; rw [if_neg (by assumption)])); (case hn => first | ((repeat (refine mcons (by k_mem) ?_)); first | exact mnil | (intro p hp; (repeat (first | exact hp | exact List.mem_append_left _ hp | refine List.mem_cons_of_mem _ ?_ | refine List.mem_append_right _ ?_)); done)) | (intro p hp; (try simp only [List.mem_cons, List.mem_append, List.nil_append, List.cons_append] at hp ⊢); (try (generalize p = q9 at *)); grind)); (case ho => first | ((repeat (refine mcons (by k_mem) ?_)); first | exact mnil | (intro p hp; (repeat (first | exact hp | exact List.mem_append_left _ hp | refine List.mem_cons_of_mem _ ?_ | refine List.mem_append_right _ ?_)); done)) | (intro p hp; (try simp only [List.mem_cons, List.mem_append, List.nil_append, List.cons_append] at hp ⊢); (try (generalize p = q9 at *)); grind)); (case hm => (intro z h1 h2 h3; (try simp only [List.contains_cons, List.contains_nil, Bool.or_false, Bool.or_eq_false_iff, beq_eq_false_iff_ne] at h3); (try simp only [if_neg h1, if_neg h2]); first | rfl | (simp_all; done)))))
    | ((with_reducible show InvEndN _ _ _ _ _ _ _); (refine endN (pre := []) (by assumption) (by assumption) (by k_mem) (by l_ints) ?e (fun _ hp => nomatch hp) ?hn ?ho ?hm; (case e => (unfold mulO; rw [if_pos (by assumption)])); (case hn => first | ((repeat (refine mcons (by k_mem) ?_)); first | exact mnil | (intro p hp; (repeat (first | exact hp | exact List.mem_append_left _ hp | refine List.mem_cons_of_mem _ ?_ | refine List.mem_append_right _ ?_)); done)) | (intro p hp; (try simp only [List.mem_cons, List.mem_append, List.nil_append, List.cons_append] at hp ⊢); (try (generalize p = q9 at *)); grind)); (case ho => first | ((repeat (refine mcons (by k_mem) ?_)); first | exact mnil | (intro p hp; (repeat (first | exact hp | exact List.mem_append_left _ hp | refine List.mem_cons_of_mem _ ?_ | refine List.mem_append_right _ ?_)); done)) | (intro p hp; (try simp only [List.mem_cons, List.mem_append, List.nil_append, List.cons_append] at hp ⊢); (try (generalize p = q9 at *)); grind)); (case hm => (intro z h1 h2 h3; (try simp only [List.contains_cons, List.contains_nil, Bool.or_false, Bool.or_eq_false_iff, beq_eq_false_iff_ne] at h3); (try simp only [if_neg h1, if_neg h2]); first | rfl | (simp_all; done)))))
    | (exact fin_list (by assumption) (by assumption) (by k_mem) (by l_ints) (by (first | exact mmul0_e3 (by assumption) (by assumption) | exact mmul0_e1 (by assumption) | exact mmul0_e2 (by assumption)))))
theorem spec_mmul (a b : Addr) (p : Int) (tp : Tok) (xs ys : List Int) (hx : xs.length ≤ 100) (hy : ys.length ≤ 100) (hp : 2 ≤ p) (hp3 : p ≤ 3) (h1 : ∀ x ∈ xs, 0 ≤ x ∧ x < 3) (h2 : ∀ x ∈ ys, 0 ≤ x ∧ x < 3) : Spec 2 93 [.ref a, .ref b, .int p tp] (fun h => LI h a xs ∧ LI h b ys) (NewL (mmulF p xs ys)) :=
  mmul_eq p xs ys ▸ spec_mmul0 a b p tp xs ys hx hy hp hp3 h1 h2
-- Smdiv
theorem rep_len (x y : Nat) : (if (x : Int) - y + 1 > 0 then (x : Int) - y + 1 else 0).toNat = x + 1 - y := by split <;> omega
theorem pred_nat (y : Nat) : ((y : Int) - 1).toNat = y - 1 := Int.toNat_sub y 1
theorem down_facts {x y q d : Nat} {k : Int} (h : (x : Int) - y - (((x : Int) - y - (-1)).toNat : Int) < k) (h2 : k ≤ (x : Int) - y) (hq : q = x + 1 - y) (hd : d = x) (hx : x ≤ 100) (hy : 1 ≤ y) : 0 ≤ k ∧ k ≤ 100 ∧ k < (q : Int) ∧ 0 ≤ k + (y : Int) - 1 ∧ k + (y : Int) - 1 < (d : Int) ∧ k + (y : Int) - 1 ≤ 300 := by omega
theorem inner_facts {y d a i : Nat} {k : Int} (h0 : 0 ≤ k) (h1 : k ≤ 100) (h : k + (y : Int) - 1 < (d : Int)) (hi : i < y) (ha : a = d) (hy : y ≤ 100) : 0 ≤ k + (i : Int) ∧ k + (i : Int) < (a : Int) ∧ k + (i : Int) ≤ 300 := by omega
theorem add_nat {k : Int} (h : 0 ≤ k) (i : Nat) : (k + (i : Int)).toNat = k.toNat + i := by
  obtain ⟨n, rfl⟩ := Int.eq_ofNat_of_zero_le h
  rfl
theorem q_small {q x y : Nat} (h : q = x + 1 - y) (hx : x ≤ 100) : q < 1000000 := by omega
theorem t_small {l : List Int} {x n : Nat} (h : l.length = x) (hx : x ≤ 100) : (l.take n).length < 1000000 := by rw [List.length_take]; omega
theorem ints_replicate2 (n : Nat) (c : Int) (t : Tok) : IntsAre (List.replicate n [Value.int c t]).flatten (List.replicate n c) := by
  induction n with
  | zero => exact IntsAre.nil
  | succ n ih => rw [List.replicate_succ, List.replicate_succ, List.flatten_cons]; exact IntsAre.cons _ _ ih
set_option maxHeartbeats 8000000 in
theorem spec_mdiv0 (a b : Addr) (p : Int) (tp : Tok) (xs ys : List Int) (hx : xs.length ≤ 100) (hy : ys.length ≤ 100) (hy1 : 1 ≤ ys.length) (hp : 2 ≤ p) (hp3 : p ≤ 3) (h1 : Sm xs) (h2 : Sm ys) (hinv : InvOK (ys.getD (-1 + (ys.length : Int)).toNat 0) p) : Spec 4 100 [.ref a, .ref b, .int p tp] (fun h => LI h a xs ∧ LI h b ys) (NewP (mdivF0 p xs ys).1 (mdivF0 p xs ys).2) := by
  k_with_none
  w_top off
  refine' spec_of (binds := [(Str.ofString "a", Value.ref a), (Str.ofString "b", Value.ref b), (Str.ofString "p", Value.int p tp)]) ?ho ?hcd ?hb ?hl ?main ?h1 ?hc ?c1 ?c2 ?c3
  case ho => intro P; rfl
  case hcd => intro P; rfl
  case hb => intro s; exact BindsTo.of_eq rfl
  case hl => exact locs rfl
  case h1 => decide
  case hc => decide
  case c1 => rfl
  case c2 => rfl
  case c3 => rfl
  k_fill
  intro w mean mg mb dp un gd A₀ base g outer L' h₁ s tk hdp hun hpre F N B X T
  obtain ⟨sh, gs, dr, stk, os⟩ := s
  refine li2 hpre fun vs hL hI ws hL2 hI2 => ?_
  have hg0 := sm_getD h2 (-1 + (ys.length : Int)).toNat
  have e9 : (if (xs.length : Int) - ys.length + 1 > 0 then (xs.length : Int) - ys.length + 1 else 0).toNat = xs.length + 1 - ys.length := rep_len _ _
  have e8 : ((ys.length : Int) - 1).toNat = ys.length - 1 := pred_nat _
  k_with "pyIter ref" => ((with_reducible show wpAny _ _ (pyIter (Value.ref _)) (fun it s₂ => LoopAtV _ _ _ _ _ (Str.ofString "at") _ _ _ it s₂) _ _); k_here; (rename Fr _ _ _ _ => lF'); (rename News _ _ _ _ => lN'); (rename IsRange _ _ _ _ _ _ _ _ => rgX); (with_unfolding_all refine' rangeD_two (post := []) [Str.ofString "number", Str.ofString "spot", Str.ofString "other"] (DivP xs ys) (divO p ys) ?hh (by first | exact rgX | assumption) (by first | exact small_down (by omega) (by omega) (by omega) (by omega) | decide) (by exact rangeSize_downNat _ _) lF' lN' ?hmd ?hmq ?hpo hI (ints_replicate2 _ _ _) ?hp ?hps (fun k9 t9 qs9 ds9 vq9 vd9 nq9 nd9 u9 h9 tk9 own9 hlo9 hhi9 hP9 hoff9 hIq9 hId9 F9 N9 => ?_) (fun u9 vd9 vq9 nd9 nq9 h9 tk9 hId9 hIq9 hP9 F9 N9 => ?_)); (case hh => exact rfl); (case hmd => k_mem); (case hmq => k_mem); (case hpo => exact (fun _ h => nomatch h)); (case hp => (exact ⟨(List.length_replicate ..).trans (rep_len _ _), rfl, sm_rep _, h1⟩)); (case hps => (intro a k hk1 hk2 hk; exact divO_keeps hp hp3 xs ys a k hk)); (all_goals (try clear lF' lN')); (all_goals (try (rename ((_ : Int) < 0 → _) => hz9; clear hz9))); (all_goals (try (rename (0 ≤ (_ : Int) → _) => hz9; clear hz9))); (all_goals (try (rename ((List.flatten _).length = _) => hz9; clear hz9))); (all_goals (try (rename ((List.toArray (List.flatten _)).size = _) => hz9; clear hz9))); (all_goals (try simp only [List.nil_append, List.cons_append] at N9)); (all_goals (try simp only [List.map_nil, List.map_cons] at hoff9)); (all_goals (have hPa9 := hP9.1)); (all_goals (have hPb9 := hP9.2.1)); (all_goals (have hPc9 := hP9.2.2.1)); (all_goals (have hPd9 := hP9.2.2.2)); (all_goals (try clear hP9)); (all_goals (try dsimp only at hPa9 hPb9 hPc9 hPd9)); (all_goals (try (have hkz9 := down_facts hlo9 hhi9 hPa9 hPb9 hx hy1; have hk09 := hkz9.1; have hk19 := hkz9.2.1; have hk29 := hkz9.2.2.1; have hk39 := hkz9.2.2.2.1; have hk49 := hkz9.2.2.2.2.1; have hk59 := hkz9.2.2.2.2.2; clear hkz9 hlo9 hhi9 hPa9; have hg9 := sm_getD hPd9 (k9 + (ys.length : Int) - 1).toNat; have hf9 := fmod_mem (ds9.getD (k9 + (ys.length : Int) - 1).toNat 0 * ys.getD (-1 + (ys.length : Int)).toNat 0) hp hp3))); (all_goals (try dsimp only)); (all_goals (try k_fold)))
  k_with "call type:enumerate" => ((with_reducible show wpAny _ _ (call (Value.type "enumerate") [Value.ref _]) (fun xv s₁ => wpAny _ _ (pyIter xv) (fun it s₂ => PairAt3 _ _ _ _ _ (Str.ofString "spot") (Str.ofString "other") _ _ _ it s₂) _ s₁) _ _); (rename Fr _ _ _ _ => lF'); (rename News _ _ _ _ => lN'); (with_unfolding_all refine' enum_list (pre := []) [] (fun st => st.length = xs.length) (divI p (divC p ys ds9 k9) k9.toNat) ?hh ?hl ?hi lF' lN' hId9 ?hp ?hps (fun i7 n7 t7 t87 a7 us7 nn7 u7 h7 tk7 own7 hn7 hmem7 hlt7 hP7 hoff7 hIs7 F7 N7 => ?_) (fun u7 us7 nn7 h7 tk7 hIs7 hP7 F7 N7 => ?_)); (case hh => exact rfl); (case hl => assumption); (case hi => assumption); (case hp => exact hPb9); (case hps => (intro a i n h1 h2; rw [divI_length]; exact h2)); (all_goals (try clear lF' lN')); (all_goals (try (rename ((_ : Int) < 0 → _) => hz9; clear hz9))); (all_goals (try (rename (0 ≤ (_ : Int) → _) => hz9; clear hz9))); (all_goals (try (rename ((List.flatten _).length = _) => hz9; clear hz9))); (all_goals (try (rename ((List.toArray (List.flatten _)).size = _) => hz9; clear hz9))); (all_goals (try simp only [List.nil_append, List.cons_append] at N7)); (all_goals (try simp only [List.nil_append, List.cons_append, List.map_nil, List.map_cons] at hoff7)); (all_goals (try (have hb7 := h2 _ hmem7))); (all_goals (try dsimp only at hP7)); (all_goals (try skip)); (all_goals (try dsimp only)); (all_goals (try k_fold)))
  k_with "call ref" => ((with_reducible show wpAny _ _ (call (Value.ref 55) _) _ _ _); (with_unfolding_all refine' use_list (spec_mtrim _ _ ?len) ?B ?F ?X ?N ?T ?hA ?hf ?hk ?hh ?hd ?hu ?hp ?_); (case B => k_asm); (case F => k_asm); (case X => k_asm); (case N => k_asm); (case T => k_asm); (case hA => with_unfolding_all exact rfl); (case hf => with_unfolding_all exact rfl); (case hk => with_unfolding_all exact rfl); (case hh => with_unfolding_all exact rfl); (case hp => (refine' LI.of ?l0 ?i0; (case l0 => first | is_list | k_dflt is_list); (case i0 => l_ints))); (case len => (first | exact q_small hPa9 hx | exact t_small hPb9 hx)); (case hd => first | exact roomD hdp (by decide) | omega | (dsimp only; omega)); (case hu => first | exact roomU hun (by decide) | omega | (dsimp only; omega)); intro ac vsc nc hc tkc F' N' ne' I'; (replace ne' := allNe_of ne'); (dsimp only [AllNe] at ne'); (have iL' := I'.length); (try dsimp only); (try k_sweep))
  k_with "call ref" => ((with_reducible show wpAny _ _ (call (Value.ref 48) _) _ _ _); (with_unfolding_all refine' use_int (spec_inv _ _ _ _ ?iv) ?B ?F ?X ?N ?T ?hA ?hf ?hk ?hh ?hd ?hu ?hp ?_); (case B => k_asm); (case F => k_asm); (case X => k_asm); (case N => k_asm); (case T => k_asm); (case hA => with_unfolding_all exact rfl); (case hf => with_unfolding_all exact rfl); (case hk => with_unfolding_all exact rfl); (case hh => with_unfolding_all exact rfl); (case hp => trivial); (case iv => with_unfolding_all exact hinv); (case hd => first | exact roomD hdp (by decide) | omega | (dsimp only; omega)); (case hu => first | exact roomU hun (by decide) | omega | (dsimp only; omega)); intro tc hc tkc F' N'; (try dsimp only); (try k_sweep))
  k_with "InvEndN" => ((with_reducible show InvEndN _ _ _ _ _ _ _); refine Mine.stopAt ?_)
  k_with "UnrEnd" => ((with_reducible show UnrEnd _ _ _ _ _ _ _); refine Mine.stopAt ?_)
  (try dsimp only)
  (with_reducible show wpAny _ _ _ _ _ _)
  k_fold
  k_steps
  all_goals (try ((with_reducible show StopAt _); (refine stopOff ?_); first
    | ((refine endN (pre := []) (by assumption) (by assumption) (by k_mem) (by l_ints) ?e (fun _ hp => nomatch hp) ?hn ?ho ?hm; (case e => (unfold divI divC; rw [add_nat hk09])); (case hn => first | ((repeat (refine mcons (by k_mem) ?_)); first | exact mnil | (intro p hp; (repeat (first | exact hp | exact List.mem_append_left _ hp | refine List.mem_cons_of_mem _ ?_ | refine List.mem_append_right _ ?_)); done)) | (intro p hp; (try simp only [List.mem_cons, List.mem_append, List.nil_append, List.cons_append] at hp ⊢); (try (generalize p = q9 at *)); grind)); (case ho => first | ((repeat (refine mcons (by k_mem) ?_)); first | exact mnil | (intro p hp; (repeat (first | exact hp | exact List.mem_append_left _ hp | refine List.mem_cons_of_mem _ ?_ | refine List.mem_append_right _ ?_)); done)) | (intro p hp; (try simp only [List.mem_cons, List.mem_append, List.nil_append, List.cons_append] at hp ⊢); (try (generalize p = q9 at *)); grind)); (case hm => (intro z h1 h2 h3; (try simp only [List.contains_cons, List.contains_nil, Bool.or_false, Bool.or_eq_false_iff, beq_eq_false_iff_ne] at h3); (try simp only [if_neg h1, if_neg h2]); first | rfl | (simp_all; done)))))
    | ((refine endD (by assumption) (by assumption) (by k_mem) (by k_mem) (by l_ints) (by l_ints) ?e ?hn ?ho ?hm; (case e => ((show (_, _) = divO p ys (qs9, ds9) k9); unfold divO; rw [if_neg (by assumption)]; rfl)); (case hn => first | ((repeat (refine mcons (by k_mem) ?_)); first | exact mnil | (intro p hp; (repeat (first | exact hp | exact List.mem_append_left _ hp | refine List.mem_cons_of_mem _ ?_ | refine List.mem_append_right _ ?_)); done)) | (intro p hp; (try simp only [List.mem_cons, List.mem_append, List.nil_append, List.cons_append] at hp ⊢); (try (generalize p = q9 at *)); grind)); (case ho => first | ((repeat (refine mcons (by k_mem) ?_)); first | exact mnil | (intro p hp; (repeat (first | exact hp | exact List.mem_append_left _ hp | refine List.mem_cons_of_mem _ ?_ | refine List.mem_append_right _ ?_)); done)) | (intro p hp; (try simp only [List.mem_cons, List.mem_append, List.nil_append, List.cons_append] at hp ⊢); (try (generalize p = q9 at *)); grind)); (case hm => (intro z h1 h3; (try simp only [List.contains_cons, List.contains_nil, Bool.or_false, Bool.or_eq_false_iff, beq_eq_false_iff_ne] at h3); (try simp only [if_neg h1]); first | rfl | (simp_all; done)))))
    | ((refine endD (by assumption) (by assumption) (by k_mem) (by k_mem) (by l_ints) (by l_ints) ?e ?hn ?ho ?hm; (case e => ((show (_, _) = divO p ys (qs9, ds9) k9); unfold divO; rw [if_pos (by assumption)]; rfl)); (case hn => first | ((repeat (refine mcons (by k_mem) ?_)); first | exact mnil | (intro p hp; (repeat (first | exact hp | exact List.mem_append_left _ hp | refine List.mem_cons_of_mem _ ?_ | refine List.mem_append_right _ ?_)); done)) | (intro p hp; (try simp only [List.mem_cons, List.mem_append, List.nil_append, List.cons_append] at hp ⊢); (try (generalize p = q9 at *)); grind)); (case ho => first | ((repeat (refine mcons (by k_mem) ?_)); first | exact mnil | (intro p hp; (repeat (first | exact hp | exact List.mem_append_left _ hp | refine List.mem_cons_of_mem _ ?_ | refine List.mem_append_right _ ?_)); done)) | (intro p hp; (try simp only [List.mem_cons, List.mem_append, List.nil_append, List.cons_append] at hp ⊢); (try (generalize p = q9 at *)); grind)); (case hm => (intro z h1 h3; (try simp only [List.contains_cons, List.contains_nil, Bool.or_false, Bool.or_eq_false_iff, beq_eq_false_iff_ne] at h3); (try simp only [if_neg h1]); first | rfl | (simp_all; done)))))))
  all_goals (try (exact fin_pair (by assumption) (by assumption) (by k_mem) (by k_mem) (by k_mem) (by l_ints) (by l_ints) (by rw [e9]; rfl) (by rw [e9, e8]; rfl)))
  all_goals trace_state
theorem spec_mdiv (a b : Addr) (p : Int) (tp : Tok) (xs ys : List Int) (hx : xs.length ≤ 100) (hy : ys.length ≤ 100) (hy1 : 1 ≤ ys.length) (hp : 2 ≤ p) (hp3 : p ≤ 3) (h1 : Sm xs) (h2 : Sm ys) (hinv : InvOK (ys.getD (-1 + (ys.length : Int)).toNat 0) p) : Spec 4 100 [.ref a, .ref b, .int p tp] (fun h => LI h a xs ∧ LI h b ys) (NewP (mdivF p xs ys).1 (mdivF p xs ys).2) :=
  mdiv_eq p xs ys ▸ spec_mdiv0 a b p tp xs ys hx hy hy1 hp hp3 h1 h2 hinv
-- Smsub
set_option maxHeartbeats 8000000 in
theorem spec_msub (a b : Addr) (p : Int) (tp : Tok) (xs ys : List Int) (hx : xs.length ≤ 400) (hy : ys.length ≤ 400) (hp : 2 ≤ p) (hp3 : p ≤ 3) : Spec 4 81 [.ref a, .ref b, .int p tp] (fun h => LI h a xs ∧ LI h b ys) (NewL (msubF p xs ys)) := by
  k_with_none
  w_top off
  refine' spec_of (binds := [(Str.ofString "a", Value.ref a), (Str.ofString "b", Value.ref b), (Str.ofString "p", Value.int p tp)]) ?ho ?hcd ?hb ?hl ?main ?h1 ?hc ?c1 ?c2 ?c3
  case ho => intro P; rfl
  case hcd => intro P; rfl
  case hb => intro s; exact BindsTo.of_eq rfl
  case hl => exact locs rfl
  case h1 => decide
  case hc => decide
  case c1 => rfl
  case c2 => rfl
  case c3 => rfl
  k_fill
  intro w mean mg mb dp un gd A₀ base g outer L' h₁ s tk hdp hun hpre F N B X T
  obtain ⟨sh, gs, dr, stk, os⟩ := s
  k_with "call ref" => ((with_reducible show wpAny _ _ (call (Value.ref 74) _) _ _ _); (with_unfolding_all refine' use_list (spec_mneg _ _ _ _ ?len hp hp3) ?B ?F ?X ?N ?T ?hA ?hf ?hk ?hh ?hd ?hu ?hp ?_); (case B => k_asm); (case F => k_asm); (case X => k_asm); (case N => k_asm); (case T => k_asm); (case hA => with_unfolding_all exact rfl); (case hf => with_unfolding_all exact rfl); (case hk => with_unfolding_all exact rfl); (case hh => with_unfolding_all exact rfl); (case hp => (refine' LI.of ?l0 ?i0; (case l0 => first | is_list | k_dflt is_list); (case i0 => l_ints))); (case len => omega); (case hd => first | exact roomD hdp (by decide) | omega | (dsimp only; omega)); (case hu => first | exact roomU hun (by decide) | omega | (dsimp only; omega)); intro ac vsc nc hc tkc F' N' ne' I'; clear ne'; (try dsimp only); (try k_sweep))
  k_with "call ref" => ((with_reducible show wpAny _ _ (call (Value.ref 69) _) _ _ _); (with_unfolding_all refine' use_list (spec_madd _ _ _ _ _ _ ?len ?len2 hp hp3) ?B ?F ?X ?N ?T ?hA ?hf ?hk ?hh ?hd ?hu ?hp ?_); (case B => k_asm); (case F => k_asm); (case X => k_asm); (case N => k_asm); (case T => k_asm); (case hA => with_unfolding_all exact rfl); (case hf => with_unfolding_all exact rfl); (case hk => with_unfolding_all exact rfl); (case hh => with_unfolding_all exact rfl); (case hp => (refine' ⟨LI.of ?l0 ?i0, LI.of ?l1 ?i1⟩; (case l0 => first | is_list | k_dflt is_list); (case i0 => l_ints); (case l1 => first | is_list | k_dflt is_list); (case i1 => l_ints))); (case len => omega); (case len2 => (rw [neg_length]; omega)); (case hd => first | exact roomD hdp (by decide) | omega | (dsimp only; omega)); (case hu => first | exact roomU hun (by decide) | omega | (dsimp only; omega)); intro ac vsc nc hc tkc F' N' ne' I'; clear ne'; (try dsimp only); (try k_sweep))
  refine li2 hpre fun vs hL hI ws hL2 hI2 => ?_
  (try dsimp only)
  (with_reducible show wpAny _ _ _ _ _ _)
  k_fold
  k_steps
  all_goals (try first
    | (exact fin_list (by assumption) (by assumption) (by k_mem) (by l_ints) (by (rfl))))
  all_goals trace_state
-- Smrest
set_option maxHeartbeats 8000000 in
theorem spec_mrest (a b : Addr) (p : Int) (tp : Tok) (xs ys : List Int) (hx : SL 100 xs) (hf : FOK p ys) : Spec 6 107 [.ref a, .ref b, .int p tp] (fun h => LI h a xs ∧ LI h b ys) (NewL (mdivF p xs ys).2) := by
  k_with_none
  w_top off
  refine' spec_of (binds := [(Str.ofString "a", Value.ref a), (Str.ofString "b", Value.ref b), (Str.ofString "p", Value.int p tp)]) ?ho ?hcd ?hb ?hl ?main ?h1 ?hc ?c1 ?c2 ?c3
  case ho => intro P; rfl
  case hcd => intro P; rfl
  case hb => intro s; exact BindsTo.of_eq rfl
  case hl => exact locs rfl
  case h1 => decide
  case hc => decide
  case c1 => rfl
  case c2 => rfl
  case c3 => rfl
  k_fill
  intro w mean mg mb dp un gd A₀ base g outer L' h₁ s tk hdp hun hpre F N B X T
  obtain ⟨sh, gs, dr, stk, os⟩ := s
  have hp2 := hf.p2
  have hp3 := hf.p3
  have hsm := hf.sm
  have hl2 := hf.l2
  have hl5 := hf.l5
  have hin := hf.inv
  have hx1 := hx.1
  have hx2 := hx.2
  k_with "call ref" => ((with_reducible show wpAny _ _ (call (Value.ref 100) _) _ _ _); (with_unfolding_all refine' use_pair (spec_mdiv _ _ _ _ _ _ ?len ?len2 ?len3 hp2 hp3 ?s1 ?s2 ?s3) ?B ?F ?X ?N ?T ?hA ?hf ?hk ?hh ?hd ?hu ?hp ?_); (case B => k_asm); (case F => k_asm); (case X => k_asm); (case N => k_asm); (case T => k_asm); (case hA => with_unfolding_all exact rfl); (case hf => with_unfolding_all exact rfl); (case hk => with_unfolding_all exact rfl); (case hh => with_unfolding_all exact rfl); (case hp => (refine' ⟨LI.of ?l0 ?i0, LI.of ?l1 ?i1⟩; (case l0 => first | is_list | k_dflt is_list); (case i0 => l_ints); (case l1 => first | is_list | k_dflt is_list); (case i1 => l_ints))); (case len => omega); (case len2 => omega); (case len3 => omega); (case s1 => exact hx1); (case s2 => exact hsm); (case s3 => exact hin); (case hd => first | exact roomD hdp (by decide) | omega | (dsimp only; omega)); (case hu => first | exact roomU hun (by decide) | omega | (dsimp only; omega)); intro cc ac bc vac vbc nac nbc hc tkc F' N' nec' nea' neb' Ia' Ib'; clear nec' nea' neb'; (try dsimp only); (try k_sweep))
  refine li2 hpre fun vs hL hI ws hL2 hI2 => ?_
  (try dsimp only)
  (with_reducible show wpAny _ _ _ _ _ _)
  k_fold
  k_steps
  all_goals (try first
    | (exact fin_list (by assumption) (by assumption) (by k_mem) (by l_ints) (by (rfl))))
  all_goals trace_state
-- Sgfm
set_option maxHeartbeats 8000000 in
theorem spec_gfm (a b m : Addr) (p : Int) (tp : Tok) (xs ys ms : List Int) (hx : SL 40 xs) (hy : SL 40 ys) (hf : FOK p ms) : Spec 8 128 [.ref a, .ref b, .ref m, .int p tp] (fun h => LI h a xs ∧ LI h b ys ∧ LI h m ms) (NewL (gfm p ms xs ys)) := by
  k_with_none
  w_top off
  refine' spec_of (binds := [(Str.ofString "a", Value.ref a), (Str.ofString "b", Value.ref b), (Str.ofString "m", Value.ref m), (Str.ofString "p", Value.int p tp)]) ?ho ?hcd ?hb ?hl ?main ?h1 ?hc ?c1 ?c2 ?c3
  case ho => intro P; rfl
  case hcd => intro P; rfl
  case hb => intro s; exact BindsTo.of_eq rfl
  case hl => exact locs rfl
  case h1 => decide
  case hc => decide
  case c1 => rfl
  case c2 => rfl
  case c3 => rfl
  k_fill
  intro w mean mg mb dp un gd A₀ base g outer L' h₁ s tk hdp hun hpre F N B X T
  obtain ⟨sh, gs, dr, stk, os⟩ := s
  have hp2 := hf.p2
  have hp3 := hf.p3
  have hsm := hf.sm
  have hl2 := hf.l2
  have hl5 := hf.l5
  have hin := hf.inv
  have hx1 := hx.1
  have hx2 := hx.2
  have hy1 := hy.1
  have hy2 := hy.2
  have hml := mmul_length p xs ys
  k_with "call ref" => ((with_reducible show wpAny _ _ (call (Value.ref 93) _) _ _ _); (with_unfolding_all refine' use_list (spec_mmul _ _ _ _ _ _ ?len ?len2 hp2 hp3 ?s1 ?s2) ?B ?F ?X ?N ?T ?hA ?hf ?hk ?hh ?hd ?hu ?hp ?_); (case B => k_asm); (case F => k_asm); (case X => k_asm); (case N => k_asm); (case T => k_asm); (case hA => with_unfolding_all exact rfl); (case hf => with_unfolding_all exact rfl); (case hk => with_unfolding_all exact rfl); (case hh => with_unfolding_all exact rfl); (case hp => (refine' ⟨LI.of ?l0 ?i0, LI.of ?l1 ?i1⟩; (case l0 => first | is_list | k_dflt is_list); (case i0 => l_ints); (case l1 => first | is_list | k_dflt is_list); (case i1 => l_ints))); (case len => omega); (case len2 => omega); (case s1 => with_unfolding_all exact hx1); (case s2 => with_unfolding_all exact hy1); (case hd => first | exact roomD hdp (by decide) | omega | (dsimp only; omega)); (case hu => first | exact roomU hun (by decide) | omega | (dsimp only; omega)); intro ac vsc nc hc tkc F' N' ne' I'; clear ne'; (try dsimp only); (try k_sweep))
  k_with "call ref" => ((with_reducible show wpAny _ _ (call (Value.ref 107) _) _ _ _); (with_unfolding_all refine' use_list (spec_mrest _ _ _ _ _ _ ?len ⟨hp2, hp3, hsm, hl2, hl5, hin⟩) ?B ?F ?X ?N ?T ?hA ?hf ?hk ?hh ?hd ?hu ?hp ?_); (case B => k_asm); (case F => k_asm); (case X => k_asm); (case N => k_asm); (case T => k_asm); (case hA => with_unfolding_all exact rfl); (case hf => with_unfolding_all exact rfl); (case hk => with_unfolding_all exact rfl); (case hh => with_unfolding_all exact rfl); (case hp => (refine' ⟨LI.of ?l0 ?i0, LI.of ?l1 ?i1⟩; (case l0 => first | is_list | k_dflt is_list); (case i0 => l_ints); (case l1 => first | is_list | k_dflt is_list); (case i1 => l_ints))); (case len => with_unfolding_all exact ⟨sm_mmul hp2 hp3 _ _, (by omega)⟩); (case hd => first | exact roomD hdp (by decide) | omega | (dsimp only; omega)); (case hu => first | exact roomU hun (by decide) | omega | (dsimp only; omega)); intro ac vsc nc hc tkc F' N' ne' I'; clear ne'; (try dsimp only); (try k_sweep))
  refine li3 hpre fun vs hL hI ws hL2 hI2 us hL3 hI3 => ?_
  (try dsimp only)
  (with_reducible show wpAny _ _ _ _ _ _)
  k_fold
  k_steps
  all_goals (try first
    | (exact fin_list (by assumption) (by assumption) (by k_mem) (by l_ints) (by (rfl))))
  all_goals trace_state
-- Spow
noncomputable def resF (p : Int) (ms : List Int) (n : Int) (f s : List Int) : List Int := if n = 0 then f else if n = 1 then gfm p ms f s else if n = 2 then gfm p ms f (gfm p ms s s) else if n = 3 then gfm p ms (gfm p ms f s) (gfm p ms s s) else gfm p ms f (gfm p ms (gfm p ms s s) (gfm p ms s s))
theorem res_start {p : Int} {ms : List Int} {n : Int} (h : n = 2 ∨ n = 3 ∨ n = 4) (xs : List Int) : resF p ms n [1] xs = powF n p ms xs := by
  rcases h with rfl | rfl | rfl <;> rfl
theorem five {n : Int} (h0 : n > 0) (h4 : n ≤ 4) : n = 1 ∨ n = 2 ∨ n = 3 ∨ n = 4 := by omega
theorem res_oo {p : Int} {ms : List Int} {n : Int} {f s R : List Int} (h0 : n > 0) (h4 : n ≤ 4) (h : resF p ms n f s = R) (h1 : n.fmod 2 = 1) (h2 : n.fdiv 2 > 0) : resF p ms (n.fdiv 2) (gfm p ms f s) (gfm p ms s s) = R := by
  subst h; rcases five h0 h4 with rfl | rfl | rfl | rfl <;> first | rfl | exact absurd h2 (by decide) | exact absurd h1 (by decide)
theorem res_on {p : Int} {ms : List Int} {n : Int} {f s R : List Int} (h0 : n > 0) (h4 : n ≤ 4) (h : resF p ms n f s = R) (h1 : n.fmod 2 = 1) (h2 : ¬ n.fdiv 2 > 0) : resF p ms (n.fdiv 2) (gfm p ms f s) s = R := by
  subst h; rcases five h0 h4 with rfl | rfl | rfl | rfl <;> first | rfl | exact absurd (by decide) h2 | exact absurd h1 (by decide)
theorem res_eo {p : Int} {ms : List Int} {n : Int} {f s R : List Int} (h0 : n > 0) (h4 : n ≤ 4) (h : resF p ms n f s = R) (h1 : n.fmod 2 ≠ 1) : resF p ms (n.fdiv 2) f (gfm p ms s s) = R := by
  subst h; rcases five h0 h4 with rfl | rfl | rfl | rfl <;> first | rfl | exact absurd (by decide) h1
theorem half_lt {n : Int} (h0 : n > 0) (h4 : n ≤ 4) : 0 ≤ n.fdiv 2 ∧ n.fdiv 2 ≤ 4 ∧ (n.fdiv 2).toNat < n.toNat := by
  rcases five h0 h4 with rfl | rfl | rfl | rfl <;> decide
structure S5 where
  f : Addr
  s : Addr
  n : Int
  t : Tok
  vf : List Value
  vs : List Value
  kf : Nat
  ks : Nat
  F : List Int
  S : List Int
noncomputable def led5 (c : S5) : List (Addr × Obj) := [LO c.f c.vf c.kf, LO c.s c.vs c.ks]
noncomputable def P5 (p : Int) (ms R : List Int) (c : S5) : Prop := (0 ≤ c.n ∧ c.n ≤ 4) ∧ IntsAre c.vf c.F ∧ IntsAre c.vs c.S ∧ SL 40 c.F ∧ SL 40 c.S ∧ resF p ms c.n c.F c.S = R
set_option maxHeartbeats 8000000 in
theorem spec_pow (a m : Addr) (n p : Int) (tn tp : Tok) (xs ms : List Int) (hn : n = 2 ∨ n = 3 ∨ n = 4) (hx : SL 40 xs) (hf : FOK p ms) : Spec 10 149 [.ref a, .int n tn, .ref m, .int p tp] (fun h => LI h a xs ∧ LI h m ms) (NewL (powF n p ms xs)) := by
  k_with_none
  w_top off
  refine' spec_of (binds := [(Str.ofString "a", Value.ref a), (Str.ofString "n", Value.int n tn), (Str.ofString "m", Value.ref m), (Str.ofString "p", Value.int p tp)]) ?ho ?hcd ?hb ?hl ?main ?h1 ?hc ?c1 ?c2 ?c3
  case ho => intro P; rfl
  case hcd => intro P; rfl
  case hb => intro s; exact BindsTo.of_eq rfl
  case hl => exact locs rfl
  case h1 => decide
  case hc => decide
  case c1 => rfl
  case c2 => rfl
  case c3 => rfl
  k_fill
  intro w mean mg mb dp un gd A₀ base g outer L' h₁ s tk hdp hun hpre F N B X T
  obtain ⟨sh, gs, dr, stk, os⟩ := s
  have hn0 : 0 ≤ n ∧ n ≤ 4 := by omega
  have hx2 := hx.2
  have sl : ∀ u v, SL 40 (gfm p ms u v) := fun u v => ⟨sm_gfm hf.p2 hf.p3 ms u v, Nat.le_trans (gfm_length p ms u v) (by have := hf.l5; omega)⟩
  have sl1 : SL 40 [1] := ⟨sm_one, by decide⟩
  k_with "exec While Compare cons nil" => (k_here; (rename Fr _ _ _ _ => lF'); (rename News _ _ _ _ => lN'); (with_unfolding_all refine' while_three (σ := S5) led5 (fun c => .ref c.f) (fun c => .ref c.s) (fun c => .int c.n c.t) (Str.ofString "found") (Str.ofString "square") (Str.ofString "n") (P5 p ms (powF n p ms xs)) (fun c => c.n.toNat) (⟨_, _, n, tn, _, _, _, _, [1], xs⟩ : S5) lF' lN' (mcons ?m1 (mcons ?m2 mnil)) ?e1 ?e2 ?e3 ⟨hn0, IntsAre.cons _ _ IntsAre.nil, ?ix, sl1, hx, res_start hn xs⟩ ?_ (by passes_own)); (case e1 => with_unfolding_all exact rfl); (case e2 => with_unfolding_all exact rfl); (case e3 => with_unfolding_all exact rfl); (case m1 => with_unfolding_all k_mem); (case m2 => with_unfolding_all k_mem); (case ix => l_ints); (with_unfolding_all rintro ⟨f9, s9, n9, t9, vf9, vs9, kf9, ks9, F9, S9⟩ h9 tk9 ⟨⟨hn09, hn49⟩, if9, is9, hF9, hS9, hR9⟩ G9 N9); (try clear lF' lN'); (try dsimp only at hn09 hn49 if9 is9 hF9 hS9 hR9); (with_unfolding_all dsimp only [led5] at N9 G9); (try dsimp only); (try k_fold))
  k_with "call ref" => ((with_reducible show wpAny _ _ (call (Value.ref 128) _) _ _ _); (with_unfolding_all refine' use_list (spec_gfm _ _ _ _ _ _ _ _ ?len ?len2 hf) ?B ?F ?X ?N ?T ?hA ?hf ?hk ?hh ?hd ?hu ?hp ?_); (case B => k_asm); (case F => k_asm); (case X => k_asm); (case N => k_asm); (case T => k_asm); (case hA => with_unfolding_all exact rfl); (case hf => with_unfolding_all exact rfl); (case hk => with_unfolding_all exact rfl); (case hh => with_unfolding_all exact rfl); (case hp => (refine' ⟨LI.of ?l0 ?i0, LI.of ?l1 ?i1, LI.of ?l2 ?i2⟩; (case l0 => first | is_list | k_dflt is_list); (case i0 => l_ints); (case l1 => first | is_list | k_dflt is_list); (case i1 => l_ints); (case l2 => first | is_list | k_dflt is_list); (case i2 => l_ints))); (case len => first | exact hF9 | exact hS9); (case len2 => exact hS9); (case hd => first | exact roomD hdp (by decide) | omega | (dsimp only; omega)); (case hu => first | exact roomU hun (by decide) | omega | (dsimp only; omega)); intro ac vsc nc hc tkc F' N' ne' I'; clear ne'; (try dsimp only); (try k_sweep))
  k_with "WEnd3" => ((with_reducible show WEnd3 _ _ _ _ _ _ _ _ _ _ _ _ _ _ _); refine Mine.stopAt ?_)
  refine li2 hpre fun vs hL hI us hL3 hI3 => ?_
  (try dsimp only)
  (with_reducible show wpAny _ _ _ _ _ _)
  k_fold
  k_steps
  all_goals (try ((with_reducible show StopAt _); (refine stopOff ?_); first
    | (refine' endW3 (⟨_, _, n9.fdiv 2, _, _, _, _, _, gfm p ms F9 S9, gfm p ms S9 S9⟩ : S5) (by assumption) (by assumption) ?e1 ?e2 ?e3 (mcons ?m1 (mcons ?m2 mnil)) ?hr ⟨⟨(half_lt (by assumption) hn49).1, (half_lt (by assumption) hn49).2.1⟩, ?i1, ?i2, sl _ _, sl _ _, res_oo (by assumption) hn49 hR9 (by assumption) (by assumption)⟩ (half_lt (by assumption) hn49).2.2; (case e1 => with_unfolding_all exact rfl); (case e2 => with_unfolding_all exact rfl); (case e3 => with_unfolding_all exact rfl); (case m1 => with_unfolding_all k_mem); (case m2 => with_unfolding_all k_mem); (case i1 => l_ints); (case i2 => l_ints); (case hr => (intro z h1 h2 h3; first | rfl | (simp only [if_neg h1, if_neg h2, if_neg h3]; done) | (simp_all; done))))
    | (refine' endW3 (⟨_, _, n9.fdiv 2, _, _, _, _, _, gfm p ms F9 S9, S9⟩ : S5) (by assumption) (by assumption) ?e1 ?e2 ?e3 (mcons ?m1 (mcons ?m2 mnil)) ?hr ⟨⟨(half_lt (by assumption) hn49).1, (half_lt (by assumption) hn49).2.1⟩, ?i1, ?i2, sl _ _, hS9, res_on (by assumption) hn49 hR9 (by assumption) (by assumption)⟩ (half_lt (by assumption) hn49).2.2; (case e1 => with_unfolding_all exact rfl); (case e2 => with_unfolding_all exact rfl); (case e3 => with_unfolding_all exact rfl); (case m1 => with_unfolding_all k_mem); (case m2 => with_unfolding_all k_mem); (case i1 => l_ints); (case i2 => l_ints); (case hr => (intro z h1 h2 h3; first | rfl | (simp only [if_neg h1, if_neg h2, if_neg h3]; done) | (simp_all; done))))
    | (refine' endW3 (⟨_, _, n9.fdiv 2, _, _, _, _, _, F9, gfm p ms S9 S9⟩ : S5) (by assumption) (by assumption) ?e1 ?e2 ?e3 (mcons ?m1 (mcons ?m2 mnil)) ?hr ⟨⟨(half_lt (by assumption) hn49).1, (half_lt (by assumption) hn49).2.1⟩, ?i1, ?i2, hF9, sl _ _, res_eo (by assumption) hn49 hR9 (by assumption)⟩ (half_lt (by assumption) hn49).2.2; (case e1 => with_unfolding_all exact rfl); (case e2 => with_unfolding_all exact rfl); (case e3 => with_unfolding_all exact rfl); (case m1 => with_unfolding_all k_mem); (case m2 => with_unfolding_all k_mem); (case i1 => l_ints); (case i2 => l_ints); (case hr => (intro z h1 h2 h3; first | rfl | (simp only [if_neg h1, if_neg h2, if_neg h3]; done) | (simp_all; done))))))
  all_goals (try first
    | (exact fin_list (by assumption) (by assumption) (by k_mem) (by l_ints) (by (first | exact hR9 | (have hz9 : n9 = 0 := (by omega); subst hz9; exact hR9)))))
  all_goals trace_state
-- Sdeg
set_option maxHeartbeats 8000000 in
theorem spec_deg (a : Addr) (xs : List Int) (hx : xs.length ≤ 400) : Spec 2 62 [.ref a] (fun h => LI h a xs) (IntR ((xs.length : Int) - 1)) := by
  k_with_none
  w_top off
  refine' spec_of (binds := [(Str.ofString "a", Value.ref a)]) ?ho ?hcd ?hb ?hl ?main ?h1 ?hc ?c1 ?c2 ?c3
  case ho => intro P; rfl
  case hcd => intro P; rfl
  case hb => intro s; exact BindsTo.of_eq rfl
  case hl => exact locs rfl
  case h1 => decide
  case hc => decide
  case c1 => rfl
  case c2 => rfl
  case c3 => rfl
  k_fill
  intro w mean mg mb dp un gd A₀ base g outer L' h₁ s tk hdp hun hpre F N B X T
  obtain ⟨sh, gs, dr, stk, os⟩ := s
  refine li1 hpre fun vs hL hI => ?_
  (try dsimp only)
  (with_reducible show wpAny _ _ _ _ _ _)
  k_fold
  k_steps
  all_goals (try first
    | (exact fin_int (by assumption) (by (rfl))))
  all_goals trace_state
set_option maxHeartbeats 8000000 in
theorem spec_num (a : Addr) (xs : List Int) (hx : xs.length ≤ 400) : Spec 2 156 [.ref a] (fun h => LI h a xs) (IntR (numF xs)) := by
  k_with_none
  w_top off
  refine' spec_of (binds := [(Str.ofString "a", Value.ref a)]) ?ho ?hcd ?hb ?hl ?main ?h1 ?hc ?c1 ?c2 ?c3
  case ho => intro P; rfl
  case hcd => intro P; rfl
  case hb => intro s; exact BindsTo.of_eq rfl
  case hl => exact locs rfl
  case h1 => decide
  case hc => decide
  case c1 => rfl
  case c2 => rfl
  case c3 => rfl
  k_fill
  intro w mean mg mb dp un gd A₀ base g outer L' h₁ s tk hdp hun hpre F N B X T
  obtain ⟨sh, gs, dr, stk, os⟩ := s
  refine li1 hpre fun vs hL hI => ?_
  (try dsimp only)
  (with_reducible show wpAny _ _ _ _ _ _)
  k_fold
  k_steps
  all_goals (try first
    | (exact fin_int (by assumption) (by ((unfold numF; (repeat' split) <;> first | rfl | omega | (simp_all; done))))))
  all_goals trace_state
-- Strace
set_option maxHeartbeats 8000000 in
theorem spec_trace (a m : Addr) (p : Int) (tp : Tok) (xs ms : List Int) (hx : SL 40 xs) (hf : FOK p ms) : Spec 12 163 [.ref a, .ref m, .int p tp] (fun h => LI h a xs ∧ LI h m ms) (IntR (trF p ms xs)) := by
  k_with_none
  w_top off
  refine' spec_of (binds := [(Str.ofString "a", Value.ref a), (Str.ofString "m", Value.ref m), (Str.ofString "p", Value.int p tp)]) ?ho ?hcd ?hb ?hl ?main ?h1 ?hc ?c1 ?c2 ?c3
  case ho => intro P; rfl
  case hcd => intro P; rfl
  case hb => intro s; exact BindsTo.of_eq rfl
  case hl => exact locs rfl
  case h1 => decide
  case hc => decide
  case c1 => rfl
  case c2 => rfl
  case c3 => rfl
  k_fill
  intro w mean mg mb dp un gd A₀ base g outer L' h₁ s tk hdp hun hpre F N B X T
  obtain ⟨sh, gs, dr, stk, os⟩ := s
  have hp2 := hf.p2
  have hp3 := hf.p3
  have hl5 := hf.l5
  have hl2 := hf.l2
  have hx2 := hx.2
  have hp23 : p = 2 ∨ p = 3 ∨ p = 4 := by omega
  have sl := tr_keeps hp2 hp3 hl5 hx
  have sll : ∀ n, (trI p ms xs n).1.length ≤ 40 := fun n => (sl n).1.2
  have e9 : ((ms.length : Int) - 1 - 0).toNat = ms.length - 1 := by omega
  k_with "pyIter ref" => ((with_reducible show wpAny _ _ (pyIter (Value.ref _)) (fun it s₂ => LoopAtV _ _ _ _ _ (Str.ofString "turn") _ _ _ it s₂) _ _); k_here; (rename Fr _ _ _ _ => lF'); (rename News _ _ _ _ => lN'); (rename IsRange _ _ _ _ _ _ _ _ => rgX); (with_unfolding_all refine' range_two (Str.ofString "found") (Str.ofString "here") (trI p ms xs) ?hh (by first | exact rgX | assumption) (by first | exact small_one (by omega) (by omega) (by omega) (by omega) | exact small_one (by l_bnd) (by l_bnd) (by l_bnd) (by l_bnd) | decide) (by first | exact rangeSize_nat _ _ | rfl) lF' lN' ?e1 ?e2 ?m1 ?m2 IntsAre.nil (by with_unfolding_all assumption) (fun i9 I9 it9 t9 a19 v19 k19 a29 v29 k29 h9 tk9 hlt9 o19 o29 hi19 hi29 F9 N9 => ?_) (fun a19 v19 k19 a29 v29 k29 u9 h9 tk9 hi19 hi29 F9 N9 => ?_)); (case hh => exact rfl); (case e1 => with_unfolding_all exact rfl); (case e2 => with_unfolding_all exact rfl); (case m1 => with_unfolding_all k_mem); (case m2 => with_unfolding_all k_mem); (all_goals (try clear lF' lN')); (all_goals (try (with_unfolding_all (have hq9 := sll i9; have hr9 := (sl i9).2.2)))); (all_goals (try dsimp only)); (all_goals (try k_fold)))
  k_with "call ref" => ((with_reducible show wpAny _ _ (call (Value.ref 149) _) _ _ _); (with_unfolding_all refine' use_list (spec_pow _ _ _ _ _ _ _ _ hp23 ?len hf) ?B ?F ?X ?N ?T ?hA ?hf ?hk ?hh ?hd ?hu ?hp ?_); (case B => k_asm); (case F => k_asm); (case X => k_asm); (case N => k_asm); (case T => k_asm); (case hA => with_unfolding_all exact rfl); (case hf => with_unfolding_all exact rfl); (case hk => with_unfolding_all exact rfl); (case hh => with_unfolding_all exact rfl); (case hp => (refine' ⟨LI.of ?l0 ?i0, LI.of ?l1 ?i1⟩; (case l0 => first | is_list | k_dflt is_list); (case i0 => l_ints); (case l1 => first | is_list | k_dflt is_list); (case i1 => l_ints))); (case len => exact (sl _).2); (case hd => first | exact roomD hdp (by decide) | omega | (dsimp only; omega)); (case hu => first | exact roomU hun (by decide) | omega | (dsimp only; omega)); intro a2 vs2 n2 h2 tk2 F' N' nw2 I'; (try dsimp only); (try k_sweep))
  k_with "call ref" => ((with_reducible show wpAny _ _ (call (Value.ref 69) _) _ _ _); (with_unfolding_all refine' use_list (spec_madd _ _ _ _ _ _ ?len ?len2 hp2 hp3) ?B ?F ?X ?N ?T ?hA ?hf ?hk ?hh ?hd ?hu ?hp ?_); (case B => k_asm); (case F => k_asm); (case X => k_asm); (case N => k_asm); (case T => k_asm); (case hA => with_unfolding_all exact rfl); (case hf => with_unfolding_all exact rfl); (case hk => with_unfolding_all exact rfl); (case hh => with_unfolding_all exact rfl); (case hp => (refine' ⟨LI.of ?l0 ?i0, LI.of ?l1 ?i1⟩; (case l0 => first | is_list | k_dflt is_list); (case i0 => l_ints); (case l1 => first | is_list | k_dflt is_list); (case i1 => l_ints))); (case len => exact Nat.le_trans hq9 (by decide)); (case len2 => exact Nat.le_trans hr9 (by decide)); (case hd => first | exact roomD hdp (by decide) | omega | (dsimp only; omega)); (case hu => first | exact roomU hun (by decide) | omega | (dsimp only; omega)); intro a1 vs1 n1 h1 tk1 F' N' nw1 I'; (try dsimp only); (try k_sweep))
  k_with "call ref" => ((with_reducible show wpAny _ _ (call (Value.ref 62) _) _ _ _); (with_unfolding_all refine' use_int (spec_deg _ _ ?len) ?B ?F ?X ?N ?T ?hA ?hf ?hk ?hh ?hd ?hu ?hp ?_); (case B => k_asm); (case F => k_asm); (case X => k_asm); (case N => k_asm); (case T => k_asm); (case hA => with_unfolding_all exact rfl); (case hf => with_unfolding_all exact rfl); (case hk => with_unfolding_all exact rfl); (case hh => with_unfolding_all exact rfl); (case hp => (refine' LI.of ?l0 ?i0; (case l0 => first | is_list | k_dflt is_list); (case i0 => l_ints))); (case len => omega); (case hd => first | exact roomD hdp (by decide) | omega | (dsimp only; omega)); (case hu => first | exact roomU hun (by decide) | omega | (dsimp only; omega)); intro tc hc tkc F' N'; (try dsimp only); (try k_sweep))
  k_with "call ref" => ((with_reducible show wpAny _ _ (call (Value.ref 156) _) _ _ _); (with_unfolding_all refine' use_int (spec_num _ _ ?len) ?B ?F ?X ?N ?T ?hA ?hf ?hk ?hh ?hd ?hu ?hp ?_); (case B => k_asm); (case F => k_asm); (case X => k_asm); (case N => k_asm); (case T => k_asm); (case hA => with_unfolding_all exact rfl); (case hf => with_unfolding_all exact rfl); (case hk => with_unfolding_all exact rfl); (case hh => with_unfolding_all exact rfl); (case hp => (refine' LI.of ?l0 ?i0; (case l0 => first | is_list | k_dflt is_list); (case i0 => l_ints))); (case len => exact Nat.le_trans (sll _) (by decide)); (case hd => first | exact roomD hdp (by decide) | omega | (dsimp only; omega)); (case hu => first | exact roomU hun (by decide) | omega | (dsimp only; omega)); intro tc hc tkc F' N'; (try dsimp only); (try k_sweep))
  k_with "InvEndN" => ((with_reducible show InvEndN _ _ _ _ _ _ _); refine Mine.stopAt ?_)
  k_with "UnrEnd" => ((with_reducible show UnrEnd _ _ _ _ _ _ _); refine Mine.stopAt ?_)
  refine li2 hpre fun vs hL hI us hL3 hI3 => ?_
  (try dsimp only)
  (with_reducible show wpAny _ _ _ _ _ _)
  k_fold
  k_steps
  all_goals (try ((with_reducible show StopAt _); (refine stopOff ?_); first
    | (refine end2 (by assumption) (by assumption) (by with_unfolding_all exact rfl) (by with_unfolding_all exact rfl) (by k_mem) (by k_mem) (by k_mem) (by first | exact ne_in nw1 (by k_mem)) (by first | exact ne_in nw2 (by k_mem)) (by l_ints) (by l_ints) ?e ?hm; (case e => with_unfolding_all exact rfl); (case hm => (intro z h1 h2 h3; first | rfl | (simp only [if_neg h1, if_neg h2, if_neg h3]; done) | (simp_all; done))))))
  all_goals (try first
    | (exact fin_int (by assumption) (by (unfold trF; rw [e9]))))
  all_goals trace_state
-- Snorm
set_option maxHeartbeats 8000000 in
theorem spec_norm (a m : Addr) (p : Int) (tp : Tok) (xs ms : List Int) (hx : SL 40 xs) (hf : FOK p ms) : Spec 12 170 [.ref a, .ref m, .int p tp] (fun h => LI h a xs ∧ LI h m ms) (IntR (noF p ms xs)) := by
  k_with_none
  w_top off
  refine' spec_of (binds := [(Str.ofString "a", Value.ref a), (Str.ofString "m", Value.ref m), (Str.ofString "p", Value.int p tp)]) ?ho ?hcd ?hb ?hl ?main ?h1 ?hc ?c1 ?c2 ?c3
  case ho => intro P; rfl
  case hcd => intro P; rfl
  case hb => intro s; exact BindsTo.of_eq rfl
  case hl => exact locs rfl
  case h1 => decide
  case hc => decide
  case c1 => rfl
  case c2 => rfl
  case c3 => rfl
  k_fill
  intro w mean mg mb dp un gd A₀ base g outer L' h₁ s tk hdp hun hpre F N B X T
  obtain ⟨sh, gs, dr, stk, os⟩ := s
  have hp2 := hf.p2
  have hp3 := hf.p3
  have hl5 := hf.l5
  have hl2 := hf.l2
  have hx2 := hx.2
  have hp23 : p = 2 ∨ p = 3 ∨ p = 4 := by omega
  have sl := no_keeps hp2 hp3 hl5 hx
  have sll : ∀ n, (noI p ms xs n).1.length ≤ 40 := fun n => (sl n).1.2
  have e9 : ((ms.length : Int) - 1 - 0).toNat = ms.length - 1 := by omega
  k_with "pyIter ref" => ((with_reducible show wpAny _ _ (pyIter (Value.ref _)) (fun it s₂ => LoopAtV _ _ _ _ _ (Str.ofString "turn") _ _ _ it s₂) _ _); k_here; (rename Fr _ _ _ _ => lF'); (rename News _ _ _ _ => lN'); (rename IsRange _ _ _ _ _ _ _ _ => rgX); (with_unfolding_all refine' range_two (Str.ofString "found") (Str.ofString "here") (noI p ms xs) ?hh (by first | exact rgX | assumption) (by first | exact small_one (by omega) (by omega) (by omega) (by omega) | exact small_one (by l_bnd) (by l_bnd) (by l_bnd) (by l_bnd) | decide) (by first | exact rangeSize_nat _ _ | rfl) lF' lN' ?e1 ?e2 ?m1 ?m2 (IntsAre.cons _ _ IntsAre.nil) (by with_unfolding_all assumption) (fun i9 I9 it9 t9 a19 v19 k19 a29 v29 k29 h9 tk9 hlt9 o19 o29 hi19 hi29 F9 N9 => ?_) (fun a19 v19 k19 a29 v29 k29 u9 h9 tk9 hi19 hi29 F9 N9 => ?_)); (case hh => exact rfl); (case e1 => with_unfolding_all exact rfl); (case e2 => with_unfolding_all exact rfl); (case m1 => with_unfolding_all k_mem); (case m2 => with_unfolding_all k_mem); (all_goals (try clear lF' lN')); (all_goals (try (with_unfolding_all (have hq9 := sll i9; have hr9 := (sl i9).2.2)))); (all_goals (try dsimp only)); (all_goals (try k_fold)))
  k_with "call ref" => ((with_reducible show wpAny _ _ (call (Value.ref 149) _) _ _ _); (with_unfolding_all refine' use_list (spec_pow _ _ _ _ _ _ _ _ hp23 ?len hf) ?B ?F ?X ?N ?T ?hA ?hf ?hk ?hh ?hd ?hu ?hp ?_); (case B => k_asm); (case F => k_asm); (case X => k_asm); (case N => k_asm); (case T => k_asm); (case hA => with_unfolding_all exact rfl); (case hf => with_unfolding_all exact rfl); (case hk => with_unfolding_all exact rfl); (case hh => with_unfolding_all exact rfl); (case hp => (refine' ⟨LI.of ?l0 ?i0, LI.of ?l1 ?i1⟩; (case l0 => first | is_list | k_dflt is_list); (case i0 => l_ints); (case l1 => first | is_list | k_dflt is_list); (case i1 => l_ints))); (case len => exact (sl _).2); (case hd => first | exact roomD hdp (by decide) | omega | (dsimp only; omega)); (case hu => first | exact roomU hun (by decide) | omega | (dsimp only; omega)); intro a2 vs2 n2 h2 tk2 F' N' nw2 I'; (try dsimp only); (try k_sweep))
  k_with "call ref" => ((with_reducible show wpAny _ _ (call (Value.ref 128) _) _ _ _); (with_unfolding_all refine' use_list (spec_gfm _ _ _ _ _ _ _ _ ?len ?len2 hf) ?B ?F ?X ?N ?T ?hA ?hf ?hk ?hh ?hd ?hu ?hp ?_); (case B => k_asm); (case F => k_asm); (case X => k_asm); (case N => k_asm); (case T => k_asm); (case hA => with_unfolding_all exact rfl); (case hf => with_unfolding_all exact rfl); (case hk => with_unfolding_all exact rfl); (case hh => with_unfolding_all exact rfl); (case hp => (refine' ⟨LI.of ?l0 ?i0, LI.of ?l1 ?i1, LI.of ?l2 ?i2⟩; (case l0 => first | is_list | k_dflt is_list); (case i0 => l_ints); (case l1 => first | is_list | k_dflt is_list); (case i1 => l_ints); (case l2 => first | is_list | k_dflt is_list); (case i2 => l_ints))); (case len => exact (sl _).1); (case len2 => exact (sl _).2); (case hd => first | exact roomD hdp (by decide) | omega | (dsimp only; omega)); (case hu => first | exact roomU hun (by decide) | omega | (dsimp only; omega)); intro a1 vs1 n1 h1 tk1 F' N' nw1 I'; (try dsimp only); (try k_sweep))
  k_with "call ref" => ((with_reducible show wpAny _ _ (call (Value.ref 62) _) _ _ _); (with_unfolding_all refine' use_int (spec_deg _ _ ?len) ?B ?F ?X ?N ?T ?hA ?hf ?hk ?hh ?hd ?hu ?hp ?_); (case B => k_asm); (case F => k_asm); (case X => k_asm); (case N => k_asm); (case T => k_asm); (case hA => with_unfolding_all exact rfl); (case hf => with_unfolding_all exact rfl); (case hk => with_unfolding_all exact rfl); (case hh => with_unfolding_all exact rfl); (case hp => (refine' LI.of ?l0 ?i0; (case l0 => first | is_list | k_dflt is_list); (case i0 => l_ints))); (case len => omega); (case hd => first | exact roomD hdp (by decide) | omega | (dsimp only; omega)); (case hu => first | exact roomU hun (by decide) | omega | (dsimp only; omega)); intro tc hc tkc F' N'; (try dsimp only); (try k_sweep))
  k_with "call ref" => ((with_reducible show wpAny _ _ (call (Value.ref 156) _) _ _ _); (with_unfolding_all refine' use_int (spec_num _ _ ?len) ?B ?F ?X ?N ?T ?hA ?hf ?hk ?hh ?hd ?hu ?hp ?_); (case B => k_asm); (case F => k_asm); (case X => k_asm); (case N => k_asm); (case T => k_asm); (case hA => with_unfolding_all exact rfl); (case hf => with_unfolding_all exact rfl); (case hk => with_unfolding_all exact rfl); (case hh => with_unfolding_all exact rfl); (case hp => (refine' LI.of ?l0 ?i0; (case l0 => first | is_list | k_dflt is_list); (case i0 => l_ints))); (case len => exact Nat.le_trans (sll _) (by decide)); (case hd => first | exact roomD hdp (by decide) | omega | (dsimp only; omega)); (case hu => first | exact roomU hun (by decide) | omega | (dsimp only; omega)); intro tc hc tkc F' N'; (try dsimp only); (try k_sweep))
  k_with "InvEndN" => ((with_reducible show InvEndN _ _ _ _ _ _ _); refine Mine.stopAt ?_)
  k_with "UnrEnd" => ((with_reducible show UnrEnd _ _ _ _ _ _ _); refine Mine.stopAt ?_)
  refine li2 hpre fun vs hL hI us hL3 hI3 => ?_
  (try dsimp only)
  (with_reducible show wpAny _ _ _ _ _ _)
  k_fold
  k_steps
  all_goals (try ((with_reducible show StopAt _); (refine stopOff ?_); first
    | (refine end2 (by assumption) (by assumption) (by with_unfolding_all exact rfl) (by with_unfolding_all exact rfl) (by k_mem) (by k_mem) (by k_mem) (by first | exact ne_in nw1 (by k_mem)) (by first | exact ne_in nw2 (by k_mem)) (by l_ints) (by l_ints) ?e ?hm; (case e => with_unfolding_all exact rfl); (case hm => (intro z h1 h2 h3; first | rfl | (simp only [if_neg h1, if_neg h2, if_neg h3]; done) | (simp_all; done))))))
  all_goals (try first
    | (exact fin_int (by assumption) (by (unfold noF; rw [e9]))))
  all_goals trace_state
-- Sdown
set_option maxHeartbeats 8000000 in
theorem spec_down (a m : Addr) (many q p : Int) (tn tq tp : Tok) (xs ms : List Int) (hm1 : 1 ≤ many) (hm4 : many ≤ 4) (hq : q = 2 ∨ q = 3 ∨ q = 4) (hx : SL 40 xs) (hf : FOK p ms) : Spec 12 206 [.ref a, .int many tn, .int q tq, .ref m, .int p tp] (fun h => LI h a xs ∧ LI h m ms) (NewT (dnI q p ms xs many.toNat).1 (dnI q p ms xs many.toNat).2.1 (dnI q p ms xs many.toNat).2.2) := by
  k_with_none
  w_top off
  refine' spec_of (binds := [(Str.ofString "a", Value.ref a), (Str.ofString "many", Value.int many tn), (Str.ofString "q", Value.int q tq), (Str.ofString "m", Value.ref m), (Str.ofString "p", Value.int p tp)]) ?ho ?hcd ?hb ?hl ?main ?h1 ?hc ?c1 ?c2 ?c3
  case ho => intro P; rfl
  case hcd => intro P; rfl
  case hb => intro s; exact BindsTo.of_eq rfl
  case hl => exact locs rfl
  case h1 => decide
  case hc => decide
  case c1 => rfl
  case c2 => rfl
  case c3 => rfl
  k_fill
  intro w mean mg mb dp un gd A₀ base g outer L' h₁ s tk hdp hun hpre F N B X T
  obtain ⟨sh, gs, dr, stk, os⟩ := s
  have hp2 := hf.p2
  have hp3 := hf.p3
  have hl5 := hf.l5
  have hl2 := hf.l2
  have hx2 := hx.2
  have sl := dn_keeps (q := q) hp2 hp3 hl5 hx
  have sl1 : ∀ n, (dnI q p ms xs n).1.length ≤ 40 := fun n => (sl n).1.2
  have sl3 : ∀ n, (dnI q p ms xs n).2.2.length ≤ 40 := fun n => (sl n).2.2.2
  have e9 : (many - 0).toNat = many.toNat := by omega
  k_with "pyIter ref" => ((with_reducible show wpAny _ _ (pyIter (Value.ref _)) (fun it s₂ => LoopAtV _ _ _ _ _ (Str.ofString "turn") _ _ _ it s₂) _ _); k_here; (rename Fr _ _ _ _ => lF'); (rename News _ _ _ _ => lN'); (rename IsRange _ _ _ _ _ _ _ _ => rgX); (with_unfolding_all refine' range_three (Str.ofString "total") (Str.ofString "product") (Str.ofString "here") (dnI q p ms xs) ?hh (by first | exact rgX | assumption) (by first | exact small_one (by omega) (by omega) (by omega) (by omega) | exact small_one (by l_bnd) (by l_bnd) (by l_bnd) (by l_bnd) | decide) (by first | exact rangeSize_nat _ _ | rfl) (by omega) lF' lN' ?e1 ?e2 ?e3 ?m1 ?m2 ?h3 IntsAre.nil (IntsAre.cons _ _ IntsAre.nil) (by with_unfolding_all assumption) (fun I9 it9 t9 a19 v19 k19 a29 v29 k29 h9 tk9 o19 o29 hi19 hi29 F9 N9 => ?_) (fun i9 I9 it9 t9 a19 v19 k19 a29 v29 k29 a39 v39 k39 h9 tk9 hlt9 o19 o29 o39 hi19 hi29 hi39 F9 N9 => ?_) (fun a19 v19 k19 a29 v29 k29 a39 v39 k39 u9 h9 tk9 hi19 hi29 hi39 F9 N9 => ?_)); (case hh => exact rfl); (case e1 => with_unfolding_all exact rfl); (case e2 => with_unfolding_all exact rfl); (case e3 => with_unfolding_all exact rfl); (case m1 => with_unfolding_all k_mem); (case m2 => with_unfolding_all k_mem); (case h3 => assumption); (all_goals (try clear lF' lN')); (all_goals (try (with_unfolding_all (have hq9 := sl1 i9; have hr9 := sl3 i9)))); (all_goals (try dsimp only)); (all_goals (try k_fold)))
  k_with "call ref" => ((with_reducible show wpAny _ _ (call (Value.ref 149) _) _ _ _); (with_unfolding_all refine' use_list (spec_pow _ _ _ _ _ _ _ _ hq ?len hf) ?B ?F ?X ?N ?T ?hA ?hf ?hk ?hh ?hd ?hu ?hp ?_); (case B => k_asm); (case F => k_asm); (case X => k_asm); (case N => k_asm); (case T => k_asm); (case hA => with_unfolding_all exact rfl); (case hf => with_unfolding_all exact rfl); (case hk => with_unfolding_all exact rfl); (case hh => with_unfolding_all exact rfl); (case hp => (refine' ⟨LI.of ?l0 ?i0, LI.of ?l1 ?i1⟩; (case l0 => first | is_list | k_dflt is_list); (case i0 => l_ints); (case l1 => first | is_list | k_dflt is_list); (case i1 => l_ints))); (case len => with_unfolding_all first | exact (sl _).2.2 | exact hx); (case hd => first | exact roomD hdp (by decide) | omega | (dsimp only; omega)); (case hu => first | exact roomU hun (by decide) | omega | (dsimp only; omega)); intro a3 vs3 n3 h3 tk3 F' N' nw3 I'; (try dsimp only); (try k_sweep))
  k_with "call ref" => ((with_reducible show wpAny _ _ (call (Value.ref 69) _) _ _ _); (with_unfolding_all refine' use_list (spec_madd _ _ _ _ _ _ ?len ?len2 hp2 hp3) ?B ?F ?X ?N ?T ?hA ?hf ?hk ?hh ?hd ?hu ?hp ?_); (case B => k_asm); (case F => k_asm); (case X => k_asm); (case N => k_asm); (case T => k_asm); (case hA => with_unfolding_all exact rfl); (case hf => with_unfolding_all exact rfl); (case hk => with_unfolding_all exact rfl); (case hh => with_unfolding_all exact rfl); (case hp => (refine' ⟨LI.of ?l0 ?i0, LI.of ?l1 ?i1⟩; (case l0 => first | is_list | k_dflt is_list); (case i0 => l_ints); (case l1 => first | is_list | k_dflt is_list); (case i1 => l_ints))); (case len => first | exact Nat.le_trans hq9 (by decide) | with_unfolding_all exact Nat.zero_le _); (case len2 => first | exact Nat.le_trans hr9 (by decide) | exact Nat.le_trans hx2 (by decide)); (case hd => first | exact roomD hdp (by decide) | omega | (dsimp only; omega)); (case hu => first | exact roomU hun (by decide) | omega | (dsimp only; omega)); intro a1 vs1 n1 h1 tk1 F' N' nw1 I'; (try dsimp only); (try k_sweep))
  k_with "call ref" => ((with_reducible show wpAny _ _ (call (Value.ref 128) _) _ _ _); (with_unfolding_all refine' use_list (spec_gfm _ _ _ _ _ _ _ _ ?len ?len2 hf) ?B ?F ?X ?N ?T ?hA ?hf ?hk ?hh ?hd ?hu ?hp ?_); (case B => k_asm); (case F => k_asm); (case X => k_asm); (case N => k_asm); (case T => k_asm); (case hA => with_unfolding_all exact rfl); (case hf => with_unfolding_all exact rfl); (case hk => with_unfolding_all exact rfl); (case hh => with_unfolding_all exact rfl); (case hp => (refine' ⟨LI.of ?l0 ?i0, LI.of ?l1 ?i1, LI.of ?l2 ?i2⟩; (case l0 => first | is_list | k_dflt is_list); (case i0 => l_ints); (case l1 => first | is_list | k_dflt is_list); (case i1 => l_ints); (case l2 => first | is_list | k_dflt is_list); (case i2 => l_ints))); (case len => with_unfolding_all first | exact (sl _).2.1 | exact (sl 0).2.1); (case len2 => with_unfolding_all first | exact (sl _).2.2 | exact hx); (case hd => first | exact roomD hdp (by decide) | omega | (dsimp only; omega)); (case hu => first | exact roomU hun (by decide) | omega | (dsimp only; omega)); intro a2 vs2 n2 h2 tk2 F' N' nw2 I'; (try dsimp only); (try k_sweep))
  k_with "InvEndN" => ((with_reducible show InvEndN _ _ _ _ _ _ _); refine Mine.stopAt ?_)
  k_with "UnrEnd" => ((with_reducible show UnrEnd _ _ _ _ _ _ _); refine Mine.stopAt ?_)
  refine li2 hpre fun vs hL hI us hL3 hI3 => ?_
  (try dsimp only)
  (with_reducible show wpAny _ _ _ _ _ _)
  k_fold
  k_steps
  all_goals (try ((with_reducible show StopAt _); (refine stopOff ?_); first
    | (refine end3 (by assumption) (by assumption) (by with_unfolding_all exact rfl) (by with_unfolding_all exact rfl) (by with_unfolding_all exact rfl) (by k_mem) (by k_mem) (by k_mem) (by k_mem) (by first | exact ne_in nw1 (by k_mem)) (by first | exact ne_in nw2 (by k_mem)) (by first | exact ne_in nw3 (by k_mem)) (by l_ints) (by l_ints) (by l_ints) ?e ?hm; (case e => with_unfolding_all exact rfl); (case hm => (intro z h1 h2 h3 h4; first | rfl | (simp only [if_neg h1, if_neg h2, if_neg h3, if_neg h4]; done) | (simp_all; done))))))
  all_goals (try (exact fin_trip (by assumption) (by assumption) (by k_mem) (by k_mem) (by k_mem) (by k_mem) (by l_ints) (by l_ints) (by l_ints) (by rw [e9]) (by rw [e9]) (by rw [e9])))
  all_goals trace_state
-- Smext
structure S9 where
  T1 : Addr
  T2 : Addr
  a1 : Addr
  b1 : Addr
  c1 : Addr
  a2 : Addr
  b2 : Addr
  c2 : Addr
  va1 : List Value
  vb1 : List Value
  vc1 : List Value
  va2 : List Value
  vb2 : List Value
  vc2 : List Value
  ka1 : Nat
  kb1 : Nat
  kc1 : Nat
  ka2 : Nat
  kb2 : Nat
  kc2 : Nat
  one : L3
  other : L3
  n : Nat
  ex : List (Addr × Obj)
noncomputable def t3 (a b c : Addr) : Obj := { cls := Value.type "tuple", data := Data.seq #[Value.ref a, Value.ref b, Value.ref c] }
noncomputable def led9 (c : S9) : List (Addr × Obj) := (c.T1, { cls := Value.type "tuple", data := Data.seq #[Value.ref c.a1, Value.ref c.b1, Value.ref c.c1] }) :: (c.T2, { cls := Value.type "tuple", data := Data.seq #[Value.ref c.a2, Value.ref c.b2, Value.ref c.c2] }) :: LO c.b1 c.vb1 c.kb1 :: LO c.c1 c.vc1 c.kc1 :: LO c.b2 c.vb2 c.kb2 :: LO c.c2 c.vc2 c.kc2 ::
  c.ex
noncomputable def Lv (g : Heap) (ex : List (Addr × Obj)) (x : Addr) (vs : List Value) : Prop := g.IsList x (List.toArray vs) ∨ ∃ n, LO x vs n ∈ ex
theorem lv_list {g : Heap} {L : Addr} {h : Heap} {m : Str → Option Value} {news ex : List (Addr × Obj)} {x : Addr} {vs : List Value} (hx : Lv g ex x vs) (F : Fr g L h m) (N : News g L h news) (sub : ∀ p ∈ ex, p ∈ news) : h.IsList x (List.toArray vs) := by
  rcases hx with hx | ⟨n, hx⟩
  · exact hx.at fun o e => F.keep _ _ e
  · exact ⟨_, (N _ (sub _ hx)).1, rfl, n, rfl⟩
theorem lv_cons {g : Heap} {ex : List (Addr × Obj)} {e : Addr × Obj} {x : Addr} {vs : List Value} (hx : Lv g ex x vs) : Lv g (e :: ex) x vs := hx.elim .inl fun ⟨n, h⟩ => .inr ⟨n, List.mem_cons_of_mem _ h⟩
theorem lv_head {g : Heap} {ex : List (Addr × Obj)} {x : Addr} {vs : List Value} {n : Nat} : Lv g (LO x vs n :: ex) x vs := .inr ⟨n, List.mem_cons_self ..⟩
noncomputable def P9 (p : Int) (g : Heap) (R : L3) (c : S9) : Prop :=
  Lv g c.ex c.a1 c.va1 ∧ Lv g c.ex c.a2 c.va2 ∧
  IntsAre c.va1 c.one.X ∧ IntsAre c.vb1 c.one.Y ∧ IntsAre c.vc1 c.one.Z ∧ IntsAre c.va2 c.other.X ∧ IntsAre c.vb2 c.other.Y ∧ IntsAre c.vc2 c.other.Z ∧ extOK p c.n c.one c.other = true ∧ extL p c.n c.one c.other = R
set_option maxHeartbeats 8000000 in
theorem spec_mext (a b : Addr) (p : Int) (tp : Tok) (xs ys : List Int) (hf : FOK p ys) (hok : extOK p 8 (oneL xs) (otherL ys) = true) (hne : (mdivF p xs ys).2.length ≠ 0) : Spec 8 114 [.ref a, .ref b, .int p tp] (fun h => LI h a xs ∧ LI h b ys) (NewT (extF p xs ys).X (extF p xs ys).Y (extF p xs ys).Z) := by
  k_with_none
  w_top off
  refine' spec_of (binds := [(Str.ofString "a", Value.ref a), (Str.ofString "b", Value.ref b), (Str.ofString "p", Value.int p tp)]) ?ho ?hcd ?hb ?hl ?main ?h1 ?hc ?c1 ?c2 ?c3
  case ho => intro P; rfl
  case hcd => intro P; rfl
  case hb => intro s; exact BindsTo.of_eq rfl
  case hl => exact locs rfl
  case h1 => decide
  case hc => decide
  case c1 => rfl
  case c2 => rfl
  case c3 => rfl
  k_fill
  intro w mean mg mb dp un gd A₀ base g outer L' h₁ s tk hdp hun hpre F N B X T
  obtain ⟨sh, gs, dr, stk, os⟩ := s
  have hp2 := hf.p2
  have hp3 := hf.p3
  have hl2 := hf.l2
  have hl5 := hf.l5
  refine li2 hpre fun vs hL hI ws hL2 hI2 => ?_
  k_with "exec While Compare cons nil" => (k_here; (rename Fr _ _ _ _ => lF'); (rename News _ _ _ _ => lN'); (with_unfolding_all refine' while_two (σ := S9) led9 (fun c => c.T1) (fun c => c.T2) (Str.ofString "one") (Str.ofString "other") [Str.ofString "quotient", Str.ofString "rest", Str.ofString "later"] (P9 p g (extR p xs ys)) (fun c => c.n) (⟨_, _, _, _, _, _, _, _, vs, [_], [], ws, [], [_], 0, _, _, 0, _, _, oneL xs, otherL ys, 8, []⟩ : S9) lF' lN' (mcons ?m1 (mcons ?m2 (mcons ?m3 (mcons ?m4 (mcons ?m5 (mcons ?m6 mnil)))))) ?e1 ?e2 ⟨.inl hL, .inl hL2, hI, IntsAre.cons _ _ IntsAre.nil, IntsAre.nil, hI2, IntsAre.nil, IntsAre.cons _ _ IntsAre.nil, hok, rfl⟩ ?_ (by passes_own)); (case e1 => with_unfolding_all exact rfl); (case e2 => with_unfolding_all exact rfl); (case m1 => with_unfolding_all k_mem); (case m2 => with_unfolding_all k_mem); (case m3 => with_unfolding_all k_mem); (case m4 => with_unfolding_all k_mem); (case m5 => with_unfolding_all k_mem); (case m6 => with_unfolding_all k_mem); (with_unfolding_all rintro ⟨T19, T29, a19, b19, c19, a29, b29, c29, va19, vb19, vc19, va29, vb29, vc29, ka19, kb19, kc19, ka29, kb29, kc29, ⟨X19, Y19, Z19⟩, ⟨X29, Y29, Z29⟩, n9, ex9⟩ u9 h9 tk9 hP9 F9 N9); (have hv19 := hP9.1); (have hv29 := hP9.2.1); (have i19 := hP9.2.2.1); (have i29 := hP9.2.2.2.1); (have i39 := hP9.2.2.2.2.1); (have i49 := hP9.2.2.2.2.2.1); (have i59 := hP9.2.2.2.2.2.2.1); (have i69 := hP9.2.2.2.2.2.2.2.1); (have hok9 := hP9.2.2.2.2.2.2.2.2.1); (have hR9 := hP9.2.2.2.2.2.2.2.2.2); (clear hP9); (try clear lF' lN'); (have ht9 := ext_turn hok9 hR9); (have hs19 := ht9.1.1); (have hs29 := ht9.1.2.1); (have hs39 := ht9.1.2.2); (have hs49 := ht9.2.1.1); (have hs59 := ht9.2.1.2.1); (have hs69 := ht9.2.1.2.2); (have hex9 := ht9.2.2.1); (have hgo9 := ht9.2.2.2); (clear ht9); (try dsimp only at hv19 hv29 i19 i29 i39 i49 i59 i69 hs19 hs29 hs39 hs49 hs59 hs69 hex9 hgo9); (have hlX19 : X19.length ≤ 40 := by with_unfolding_all exact hs19.2); (have hlY19 : Y19.length ≤ 40 := by with_unfolding_all exact hs29.2); (have hlZ19 : Z19.length ≤ 40 := by with_unfolding_all exact hs39.2); (have hlX29 : X29.length ≤ 40 := by with_unfolding_all exact hs49.2); (have hlY29 : Y29.length ≤ 40 := by with_unfolding_all exact hs59.2); (have hlZ29 : Z29.length ≤ 40 := by with_unfolding_all exact hs69.2); (have hsX9 : Sm X19 := by with_unfolding_all exact hs19.1); (have hq9 : (mdivF p X19 X29).1.length ≤ 41 := Nat.le_trans (div1_length hp2 hp3 X29 hsX9) (by omega)); (have hsq9 : ∀ x ∈ (mdivF p X19 X29).1, 0 ≤ x ∧ x < 3 := sm_div1 hp2 hp3 X29 hsX9); (have hsX29 : Sm X29 := by with_unfolding_all exact hs49.1); (have hsY29 : ∀ x ∈ Y29, 0 ≤ x ∧ x < 3 := by with_unfolding_all exact hs59.1); (have hsZ29 : ∀ x ∈ Z29, 0 ≤ x ∧ x < 3 := by with_unfolding_all exact hs69.1); (have hsY19 : Sm Y19 := by with_unfolding_all exact hs29.1); (have hsZ19 : Sm Z19 := by with_unfolding_all exact hs39.1); (try clear hI hI2 hok); (try clear hok9 hR9); (with_unfolding_all dsimp only [led9] at N9 F9); (have hl19 := lv_list hv19 F9 N9 (fun p hp => by (repeat (first | exact hp | refine List.mem_cons_of_mem _ ?_)))); (have hl29 := lv_list hv29 F9 N9 (fun p hp => by (repeat (first | exact hp | refine List.mem_cons_of_mem _ ?_)))); (try dsimp only); (try k_fold))
  k_with "call ref" => ((with_reducible show wpAny _ _ (call (Value.ref 100) _) _ _ _); (with_unfolding_all refine' use_pair (spec_mdiv _ _ _ _ _ _ ?len ?len2 ?len3 hp2 hp3 ?s1 ?s2 ?s3) ?B ?F ?X ?N ?T ?hA ?hf ?hk ?hh ?hd ?hu ?hp ?_); (case B => k_asm); (case F => k_asm); (case X => k_asm); (case N => k_asm); (case T => k_asm); (case hA => with_unfolding_all exact rfl); (case hf => with_unfolding_all exact rfl); (case hk => with_unfolding_all exact rfl); (case hh => with_unfolding_all exact rfl); (case hp => (refine' ⟨LI.of ?l0 ?i0, LI.of ?l1 ?i1⟩; (case l0 => first | is_list | k_dflt is_list); (case i0 => l_ints); (case l1 => first | is_list | k_dflt is_list); (case i1 => l_ints))); (case len => omega); (case len2 => omega); (case len3 => omega); (case s1 => exact hsX9); (case s2 => exact hsX29); (case s3 => with_unfolding_all exact (hgo9.out (by omega)).1); (case hd => first | exact roomD hdp (by decide) | omega | (dsimp only; omega)); (case hu => first | exact roomU hun (by decide) | omega | (dsimp only; omega)); intro cd ad bd vad vbd nad nbd hd tkd F' N' nec' nea' neb' Ia' Ib'; clear nec' nea' neb'; (try dsimp only); (try k_sweep))
  k_with "call ref" => ((with_reducible show wpAny _ _ (call (Value.ref 93) _) _ _ _); (with_unfolding_all refine' use_list (spec_mmul _ _ _ _ _ _ ?len ?len2 hp2 hp3 ?s1 ?s2) ?B ?F ?X ?N ?T ?hA ?hf ?hk ?hh ?hd ?hu ?hp ?_); (case B => k_asm); (case F => k_asm); (case X => k_asm); (case N => k_asm); (case T => k_asm); (case hA => with_unfolding_all exact rfl); (case hf => with_unfolding_all exact rfl); (case hk => with_unfolding_all exact rfl); (case hh => with_unfolding_all exact rfl); (case hp => (refine' ⟨LI.of ?l0 ?i0, LI.of ?l1 ?i1⟩; (case l0 => first | is_list | k_dflt is_list); (case i0 => l_ints); (case l1 => first | is_list | k_dflt is_list); (case i1 => l_ints))); (case len => omega); (case len2 => omega); (case s1 => exact hsq9); (case s2 => first | exact hsY29 | exact hsZ29); (case hd => first | exact roomD hdp (by decide) | omega | (dsimp only; omega)); (case hu => first | exact roomU hun (by decide) | omega | (dsimp only; omega)); intro ac vsc nc hc tkc F' N' ne' I'; clear ne'; (try dsimp only); (try k_sweep))
  k_with "call ref" => ((with_reducible show wpAny _ _ (call (Value.ref 81) _) _ _ _); (with_unfolding_all refine' use_list (spec_msub _ _ _ _ _ _ ?len ?len2 hp2 hp3) ?B ?F ?X ?N ?T ?hA ?hf ?hk ?hh ?hd ?hu ?hp ?_); (case B => k_asm); (case F => k_asm); (case X => k_asm); (case N => k_asm); (case T => k_asm); (case hA => with_unfolding_all exact rfl); (case hf => with_unfolding_all exact rfl); (case hk => with_unfolding_all exact rfl); (case hh => with_unfolding_all exact rfl); (case hp => (refine' ⟨LI.of ?l0 ?i0, LI.of ?l1 ?i1⟩; (case l0 => first | is_list | k_dflt is_list); (case i0 => l_ints); (case l1 => first | is_list | k_dflt is_list); (case i1 => l_ints))); (case len => omega); (case len2 => (refine Nat.le_trans (mmul_length _ _ _) ?_; omega)); (case hd => first | exact roomD hdp (by decide) | omega | (dsimp only; omega)); (case hu => first | exact roomU hun (by decide) | omega | (dsimp only; omega)); intro ac vsc nc hc tkc F' N' ne' I'; clear ne'; (try dsimp only); (try k_sweep))
  k_with "call ref" => ((with_reducible show wpAny _ _ (call (Value.ref 86) _) _ _ _); (with_unfolding_all refine' use_list (spec_mscale _ _ _ _ _ _ ?len ?s0 hp2 hp3 ?s1) ?B ?F ?X ?N ?T ?hA ?hf ?hk ?hh ?hd ?hu ?hp ?_); (case B => k_asm); (case F => k_asm); (case X => k_asm); (case N => k_asm); (case T => k_asm); (case hA => with_unfolding_all exact rfl); (case hf => with_unfolding_all exact rfl); (case hk => with_unfolding_all exact rfl); (case hh => with_unfolding_all exact rfl); (case hp => (refine' LI.of ?l0 ?i0; (case l0 => first | is_list | k_dflt is_list | exact lv_list hv19 (by assumption) (by assumption) (fun p hp => by (repeat (first | exact hp | refine List.mem_cons_of_mem _ ?_)))); (case i0 => l_ints))); (case len => omega); (case s0 => exact sm_getD hsX9 _); (case s1 => first | exact hsX9 | exact hsY19 | exact hsZ19); (case hd => first | exact roomD hdp (by decide) | omega | (dsimp only; omega)); (case hu => first | exact roomU hun (by decide) | omega | (dsimp only; omega)); intro ac vsc nc hc tkc F' N' ne' I'; clear ne'; (try dsimp only); (try k_sweep))
  k_with "call ref" => ((with_reducible show wpAny _ _ (call (Value.ref 48) _) _ _ _); (with_unfolding_all refine' use_int (spec_inv _ _ _ _ ?iv) ?B ?F ?X ?N ?T ?hA ?hf ?hk ?hh ?hd ?hu ?hp ?_); (case B => k_asm); (case F => k_asm); (case X => k_asm); (case N => k_asm); (case T => k_asm); (case hA => with_unfolding_all exact rfl); (case hf => with_unfolding_all exact rfl); (case hk => with_unfolding_all exact rfl); (case hh => with_unfolding_all exact rfl); (case hp => trivial); (case iv => with_unfolding_all exact (hex9.out (by omega)).2.2); (case hd => first | exact roomD hdp (by decide) | omega | (dsimp only; omega)); (case hu => first | exact roomU hun (by decide) | omega | (dsimp only; omega)); intro tc hc tkc F' N'; (try dsimp only); (try k_sweep))
  k_with "WEnd" => ((with_reducible show WEnd _ _ _ _ _ _ _ _ _ _ _ _ _ _); refine Mine.stopAt ?_)
  (try dsimp only)
  (with_reducible show wpAny _ _ _ _ _ _)
  k_fold
  k_steps
  all_goals (try ((with_reducible show StopAt _); (refine stopOff ?_); (obtain ⟨hin9, k9, hk9, hok9, hR9⟩ := hgo9.out (by omega)); (refine' endW (⟨T29, _, a29, b29, c29, _, _, _, va29, vb29, vc29, _, _, _, ka29, kb29, kc29, 0, _, _, ⟨X29, Y29, Z29⟩, ⟨(mdivF p X19 X29).2, msubF p Y19 (mmulF p (mdivF p X19 X29).1 Y29), msubF p Z19 (mmulF p (mdivF p X19 X29).1 Z29)⟩, k9, LO _ _ _ :: ex9⟩ : S9) (by assumption) (by assumption) ?e1 ?e2 (mcons ?m1 (mcons ?m2 (mcons ?m3 (mcons ?m4 (mcons ?m5 (mcons ?m6 (mcons ?m7 ?m8))))))) ?hr ⟨lv_cons hv29, lv_head, i49, i59, i69, ?i1, ?i2, ?i3, hok9, hR9⟩ ?hm); (case e1 => with_unfolding_all exact rfl); (case e2 => with_unfolding_all exact rfl); (case m1 => with_unfolding_all k_mem); (case m2 => with_unfolding_all k_mem); (case m3 => with_unfolding_all k_mem); (case m4 => with_unfolding_all k_mem); (case m5 => with_unfolding_all k_mem); (case m6 => with_unfolding_all k_mem); (case m7 => with_unfolding_all k_mem); (case m8 => (intro p hp; (repeat (first | exact hp | refine List.mem_cons_of_mem _ ?_)))); (case i1 => l_ints); (case i2 => l_ints); (case i3 => l_ints); (case hr => (intro z h1 h2 h3; (have h4 := h3); (simp only [List.contains_cons, List.contains_nil, Bool.or_false, Bool.or_eq_false_iff, beq_eq_false_iff_ne] at h4); first | (simp only [if_neg h1, if_neg h2, if_neg h4.1, if_neg h4.2.1, if_neg h4.2.2, h3, Bool.false_eq_true, if_false]; done) | (simp_all; done))); (case hm => (show k9 < n9; omega))))
  all_goals (try (exact fin_trip (by assumption) (by assumption) (by k_mem) (by k_mem) (by k_mem) (by k_mem) (by l_ints) (by l_ints) (by l_ints) (by (unfold extF; rw [(hex9.out (by omega)).1]; rfl)) (by (unfold extF; rw [(hex9.out (by omega)).1]; rfl)) (by (unfold extF; rw [(hex9.out (by omega)).1]; rfl))))
  all_goals (try (exfalso; have hx9 := (hex9.out (by omega)).2.1; omega))
  all_goals trace_state
-- Sminv
set_option maxHeartbeats 8000000 in
theorem spec_minv (a f : Addr) (p : Int) (tp : Tok) (xs ys : List Int) (hx : SL 40 xs) (hf : FOK p ys) (hok : minvOK p ys xs = true) : Spec 10 121 [.ref a, .ref f, .int p tp] (fun h => LI h a xs ∧ LI h f ys) (NewL (minvF p ys xs)) := by
  k_with_none
  w_top off
  refine' spec_of (binds := [(Str.ofString "a", Value.ref a), (Str.ofString "f", Value.ref f), (Str.ofString "p", Value.int p tp)]) ?ho ?hcd ?hb ?hl ?main ?h1 ?hc ?c1 ?c2 ?c3
  case ho => intro P; rfl
  case hcd => intro P; rfl
  case hb => intro s; exact BindsTo.of_eq rfl
  case hl => exact locs rfl
  case h1 => decide
  case hc => decide
  case c1 => rfl
  case c2 => rfl
  case c3 => rfl
  k_fill
  intro w mean mg mb dp un gd A₀ base g outer L' h₁ s tk hdp hun hpre F N B X T
  obtain ⟨sh, gs, dr, stk, os⟩ := s
  have hk1 := (minvOK_iff hok).1
  have hk2 := (minvOK_iff hok).2.1
  have hk3 := (minvOK_iff hok).2.2.1
  have hk4 := (minvOK_iff hok).2.2.2
  have hx1 : SL 100 xs := ⟨hx.1, Nat.le_trans hx.2 (by decide)⟩
  have hk5 : SL 100 (extF p (mdivF p xs ys).2 ys).Y := ⟨hk4.1, Nat.le_trans hk4.2 (by decide)⟩
  k_with "call ref" => ((with_reducible show wpAny _ _ (call (Value.ref 107) _) _ _ _); (with_unfolding_all refine' use_list (spec_mrest _ _ _ _ _ _ ?len hf) ?B ?F ?X ?N ?T ?hA ?hf ?hk ?hh ?hd ?hu ?hp ?_); (case B => k_asm); (case F => k_asm); (case X => k_asm); (case N => k_asm); (case T => k_asm); (case hA => with_unfolding_all exact rfl); (case hf => with_unfolding_all exact rfl); (case hk => with_unfolding_all exact rfl); (case hh => with_unfolding_all exact rfl); (case hp => (refine' ⟨LI.of ?l0 ?i0, LI.of ?l1 ?i1⟩; (case l0 => first | is_list | k_dflt is_list); (case i0 => l_ints); (case l1 => first | is_list | k_dflt is_list); (case i1 => l_ints))); (case len => first | exact hx1 | exact hk5); (case hd => first | exact roomD hdp (by decide) | omega | (dsimp only; omega)); (case hu => first | exact roomU hun (by decide) | omega | (dsimp only; omega)); intro ac vsc nc hc tkc F' N' ne' I'; clear ne'; (try dsimp only); (try k_sweep))
  k_with "call ref" => ((with_reducible show wpAny _ _ (call (Value.ref 114) _) _ _ _); (with_unfolding_all refine' use_trip (spec_mext _ _ _ _ _ _ hf ?s1 ?s2) ?B ?F ?X ?N ?T ?hA ?hf ?hk ?hh ?hd ?hu ?hp ?_); (case B => k_asm); (case F => k_asm); (case X => k_asm); (case N => k_asm); (case T => k_asm); (case hA => with_unfolding_all exact rfl); (case hf => with_unfolding_all exact rfl); (case hk => with_unfolding_all exact rfl); (case hh => with_unfolding_all exact rfl); (case hp => (refine' ⟨LI.of ?l0 ?i0, LI.of ?l1 ?i1⟩; (case l0 => first | is_list | k_dflt is_list); (case i0 => l_ints); (case l1 => first | is_list | k_dflt is_list); (case i1 => l_ints))); (case s1 => exact hk1); (case s2 => exact hk2); (case hd => first | exact roomD hdp (by decide) | omega | (dsimp only; omega)); (case hu => first | exact roomU hun (by decide) | omega | (dsimp only; omega)); intro cc ac bc ec vac vbc vec nac nbc nec hc tkc F' N' nec' nea' neb' nee' Ia' Ib' Ie'; clear nec' nea' neb' nee'; (try dsimp only); (try k_sweep))
  refine li2 hpre fun vs hL hI ws hL2 hI2 => ?_
  (try dsimp only)
  (with_reducible show wpAny _ _ _ _ _ _)
  k_fold
  k_steps
  all_goals (try first
    | (exact fin_list (by assumption) (by assumption) (by k_mem) (by l_ints) (by (rfl))))
  all_goals trace_state
-- Sgdiv
set_option maxHeartbeats 8000000 in
theorem spec_ginv (a f : Addr) (p : Int) (tp : Tok) (xs ys : List Int) (hx : SL 40 xs) (hf : FOK p ys) (hne : xs.length ≠ 0) (hok : minvOK p ys xs = true) : Spec 12 135 [.ref a, .ref f, .int p tp] (fun h => LI h a xs ∧ LI h f ys) (NewL (minvF p ys xs)) := by
  k_with_none
  w_top off
  refine' spec_of (binds := [(Str.ofString "a", Value.ref a), (Str.ofString "m", Value.ref f), (Str.ofString "p", Value.int p tp)]) ?ho ?hcd ?hb ?hl ?main ?h1 ?hc ?c1 ?c2 ?c3
  case ho => intro P; rfl
  case hcd => intro P; rfl
  case hb => intro s; exact BindsTo.of_eq rfl
  case hl => exact locs rfl
  case h1 => decide
  case hc => decide
  case c1 => rfl
  case c2 => rfl
  case c3 => rfl
  k_fill
  intro w mean mg mb dp un gd A₀ base g outer L' h₁ s tk hdp hun hpre F N B X T
  obtain ⟨sh, gs, dr, stk, os⟩ := s
  have hx2 := hx.2
  k_with "call ref" => ((with_reducible show wpAny _ _ (call (Value.ref 121) _) _ _ _); (with_unfolding_all refine' use_list (spec_minv _ _ _ _ _ _ hx hf hok) ?B ?F ?X ?N ?T ?hA ?hf ?hk ?hh ?hd ?hu ?hp ?_); (case B => k_asm); (case F => k_asm); (case X => k_asm); (case N => k_asm); (case T => k_asm); (case hA => with_unfolding_all exact rfl); (case hf => with_unfolding_all exact rfl); (case hk => with_unfolding_all exact rfl); (case hh => with_unfolding_all exact rfl); (case hp => (refine' ⟨LI.of ?l0 ?i0, LI.of ?l1 ?i1⟩; (case l0 => first | is_list | k_dflt is_list); (case i0 => l_ints); (case l1 => first | is_list | k_dflt is_list); (case i1 => l_ints))); (case hd => first | exact roomD hdp (by decide) | omega | (dsimp only; omega)); (case hu => first | exact roomU hun (by decide) | omega | (dsimp only; omega)); intro ac vsc nc hc tkc F' N' ne' I'; clear ne'; (try dsimp only); (try k_sweep))
  refine li2 hpre fun vs hL hI ws hL2 hI2 => ?_
  (try dsimp only)
  (with_reducible show wpAny _ _ _ _ _ _)
  k_fold
  k_steps
  all_goals (try first
    | (exact fin_list (by assumption) (by assumption) (by k_mem) (by l_ints) (by (rfl))))
  all_goals (try (exfalso; omega))
  all_goals trace_state
set_option maxHeartbeats 8000000 in
theorem spec_gdiv (a b f : Addr) (p : Int) (tp : Tok) (xs zs ys : List Int) (hx : SL 40 xs) (hz : SL 40 zs) (hf : FOK p ys) (hne : zs.length ≠ 0) (hok : minvOK p ys zs = true) : Spec 14 142 [.ref a, .ref b, .ref f, .int p tp] (fun h => LI h a xs ∧ LI h b zs ∧ LI h f ys) (NewL (gdivF p ys xs zs)) := by
  k_with_none
  w_top off
  refine' spec_of (binds := [(Str.ofString "a", Value.ref a), (Str.ofString "b", Value.ref b), (Str.ofString "m", Value.ref f), (Str.ofString "p", Value.int p tp)]) ?ho ?hcd ?hb ?hl ?main ?h1 ?hc ?c1 ?c2 ?c3
  case ho => intro P; rfl
  case hcd => intro P; rfl
  case hb => intro s; exact BindsTo.of_eq rfl
  case hl => exact locs rfl
  case h1 => decide
  case hc => decide
  case c1 => rfl
  case c2 => rfl
  case c3 => rfl
  k_fill
  intro w mean mg mb dp un gd A₀ base g outer L' h₁ s tk hdp hun hpre F N B X T
  obtain ⟨sh, gs, dr, stk, os⟩ := s
  have hq : SL 40 (minvF p ys zs) := ⟨sm_div2 hf.p2 hf.p3 _ (minvOK_iff hok).2.2.2.1, Nat.le_trans (div2_length ..) (by have := hf.l5; omega)⟩
  k_with "call ref" => ((with_reducible show wpAny _ _ (call (Value.ref 135) _) _ _ _); (with_unfolding_all refine' use_list (spec_ginv _ _ _ _ _ _ hz hf hne hok) ?B ?F ?X ?N ?T ?hA ?hf ?hk ?hh ?hd ?hu ?hp ?_); (case B => k_asm); (case F => k_asm); (case X => k_asm); (case N => k_asm); (case T => k_asm); (case hA => with_unfolding_all exact rfl); (case hf => with_unfolding_all exact rfl); (case hk => with_unfolding_all exact rfl); (case hh => with_unfolding_all exact rfl); (case hp => (refine' ⟨LI.of ?l0 ?i0, LI.of ?l1 ?i1⟩; (case l0 => first | is_list | k_dflt is_list); (case i0 => l_ints); (case l1 => first | is_list | k_dflt is_list); (case i1 => l_ints))); (case hd => first | exact roomD hdp (by decide) | omega | (dsimp only; omega)); (case hu => first | exact roomU hun (by decide) | omega | (dsimp only; omega)); intro ac vsc nc hc tkc F' N' ne' I'; clear ne'; (try dsimp only); (try k_sweep))
  k_with "call ref" => ((with_reducible show wpAny _ _ (call (Value.ref 128) _) _ _ _); (with_unfolding_all refine' use_list (spec_gfm _ _ _ _ _ _ _ _ ?len ?len2 hf) ?B ?F ?X ?N ?T ?hA ?hf ?hk ?hh ?hd ?hu ?hp ?_); (case B => k_asm); (case F => k_asm); (case X => k_asm); (case N => k_asm); (case T => k_asm); (case hA => with_unfolding_all exact rfl); (case hf => with_unfolding_all exact rfl); (case hk => with_unfolding_all exact rfl); (case hh => with_unfolding_all exact rfl); (case hp => (refine' ⟨LI.of ?l0 ?i0, LI.of ?l1 ?i1, LI.of ?l2 ?i2⟩; (case l0 => first | is_list | k_dflt is_list); (case i0 => l_ints); (case l1 => first | is_list | k_dflt is_list); (case i1 => l_ints); (case l2 => first | is_list | k_dflt is_list); (case i2 => l_ints))); (case len => exact hx); (case len2 => exact hq); (case hd => first | exact roomD hdp (by decide) | omega | (dsimp only; omega)); (case hu => first | exact roomU hun (by decide) | omega | (dsimp only; omega)); intro ac vsc nc hc tkc F' N' ne' I'; clear ne'; (try dsimp only); (try k_sweep))
  refine li3 hpre fun vs hL hI us hL3 hI3 ws hL2 hI2 => ?_
  (try dsimp only)
  (with_reducible show wpAny _ _ _ _ _ _)
  k_fold
  k_steps
  all_goals (try first
    | (exact fin_list (by assumption) (by assumption) (by k_mem) (by l_ints) (by (rfl))))
  all_goals trace_state
-- Draw
noncomputable def drawF (ns : List Int) (k many : Int) : Int := if k < ns.length then (if ns.getD k.toNat 0 < 0 then -ns.getD k.toNat 0 else ns.getD k.toNat 0).fmod many else (3 * k + 4).fmod many
abbrev poolO (D : Addr) (k : Int) (t : Tok) (n : Nat) : Obj := W.listOf #[.ref D, .int k t] n
/-- the end of a draw -/
noncomputable def FinD (g : Heap) (s : Shared) (pl D : Addr) (n : Nat) (j i : Int) (v : Value) (s' : Shared) : Prop :=
  ∃ h' tk t t1, s' = { s with heap := h', toks := tk } ∧ g.StaysIn h' ∧ h'.get? pl = some (poolO D j t1 n) ∧ v = .int i t
theorem fin_draw {g h' : Heap} {L' pl D : Addr} {m' : Str → Option Value} {s : Shared} {news : List (Addr × Obj)} {n : Nat} {i j i' j' : Int} {t t1 : Tok} {tk : Nat} (F : Fr g L' h' m') (N : News g L' h' news) (hm : (pl, poolO D j' t1 n) ∈ news) (e1 : j' = j) (e2 : i' = i) :
    FinD g s pl D n j i (.int i' t) ⟨h', s.gens, s.drawn, tk, s.os⟩ := by
  subst e1 e2
  exact ⟨h', tk, t, t1, rfl, F.keep, (N _ hm).1, rfl⟩
section
variable {d : Nat} {name qual : Str} {params : Arguments} {body : List Stmt} {scope : Scope} {dV kV doc pm cdv ct oc : Value} {an od : Option Addr} {osl : Array (Option Value)} {f : Addr} {vs : List Value} {binds : List (Str × Value)}
/-- a def that turns one object of the caller's: the contract over the heap without it -/
noncomputable def SpecD (d : Nat) (f : Addr) (pl D : Addr) (n : Nat) (k : Int) (t0 : Tok) (ys : List Value) (ns : List Int) (vs : List Value) (j i : Int) : Prop :=
  ∀ (w : World) (mean : ExcName → Option Value) (mg mb : Str → Option Value) (A A₀ : Around) (base h₀ : Heap) (outer : List Env) (L : Addr) (m : Str → Option Value) (env : Env) (s : Shared) (Q : Value → Shared → Prop) (E : Value → Shared → Prop),
    Below A₀ base outer h₀ → Fr h₀ L s.heap m → News h₀ L s.heap [(pl, poolO D k t0 n)] → (K w.params).In h₀ → Top hd.view_39 lse mean mg mb h₀ → A.frames = some (env :: outer) → env.frame = some L → env.scope.kind = .function → A.handled = none →
    A.depth + d < recursionLimit → A.units + 8 * d < cLine → s.heap.IsList D ys.toArray → IntsAre ys ns → D ≠ pl →
    (∀ t t1 h' tk, (∀ b o, b ≠ pl → s.heap.get? b = some o → h'.get? b = some o) → h'.get? pl = some (poolO D j t1 n) → Q (.int i t) { s with heap := h', toks := tk }) →
    wpAny (model PySem.Challenge.rw_sa0088_01.row.prog w) A (call (.ref f) vs) Q E s
theorem specD_of {pl D : Addr} {n : Nat} {k : Int} {t0 : Tok} {ys : List Value} {ns : List Int} {j i : Int}
    (ho : ∀ P, (K P).lookup f = some ⟨oc, od, .func (fnOf name qual params body scope dV kV doc pm an cdv ct), osl⟩) (hcd : ∀ P, codeIn (K P) cdv qual = true)
    (hbind : ∀ s, BindsTo s (fnOf name qual params body scope dV kV doc pm an cdv ct) ⟨vs, []⟩ binds) (hloc : ∀ y ∈ binds, scope.names.lookup y.1 = some .local)
    (h : ∀ (w : World) (mean : ExcName → Option Value) (mg mb : Str → Option Value) (dp un : Nat) (gd : Option (List Code)) (A₀ : Around) (base g : Heap) (outer : List Env) (L' : Addr) (h₁ : Heap) (s : Shared) (tk : Nat),
      dp + d ≤ recursionLimit → un + 8 * d ≤ cLine + 3 →
      Fr g L' h₁ (fun y => binds.reverse.lookup y) → News g L' h₁ [(pl, poolO D k t0 n)] → Below A₀ base outer g → (K w.params).In g → Top hd.view_39 lse mean mg mb g → g.IsList D ys.toArray → IntsAre ys ns →
      wpAny (model PySem.Challenge.rw_sa0088_01.row.prog w) { handled := none, depth := dp, frames := some (envOf qual scope L' f cdv :: outer), guards := gd, units := un } (execs body (envOf qual scope L' f cdv))
        (fun fl s' => FinD g s pl D n j i (match fl with | .ret v => v | _ => .none) s')
        (fun _ _ => False)
        { s with heap := h₁, toks := tk })
    (hd1 : 1 ≤ d)
    (hcell : ∀ x ∈ scope.names, x.2 ≠ .cell) (hco : scope.isCoroutine = false) (hgen : scope.isGenerator = false) (hk : scope.kind = .function) :
    SpecD d f pl D n k t0 ys ns vs j i := by
  intro w mean mg mb A A₀ base h₀ outer L m env s Q E B F N X T hA hf hke hh hdp hun hl hi hne ret
  obtain ⟨FG, BG, st, lv⟩ := groundX (R := fun _ _ => True) B F N hA hf hke
  simp only [List.map_cons, List.map_nil] at FG BG st
  have k1 : (K w.params).In s.heap := X.keeps F.keep
  have t1 : Top hd.view_39 lse mean mg mb s.heap := T.keeps F.keep
  refine wpAny_call ?_
  refine codeAny_call_def (fd := fnOf name qual params body scope dV kV doc pm an cdv ct) (body := body) (binds := binds) ?_ (k1 _ _ (ho _)) rfl t1.nolimit (codeRec_of k1 (hcd _)) rfl (hbind s) hcell hloc (fun h₁ hns hk₁ => ?_) hco hgen hk
  · omega
  have gl : (hideAll s.heap [pl]).StaysIn h₁ := fun b o e => hk₁ b o (of_hideAll _ e)
  have hpl : s.heap.get? pl = some (poolO D k t0 n) := (N _ (.head _)).1
  have npl : pl ≠ s.heap.objs.size := Nat.ne_of_lt (Heap.lt_size hpl)
  have e := h w mean mg mb (A.depth + 1) (A.units + 3) A.guards A base (hideAll s.heap [pl]) (env :: outer) s.heap.objs.size h₁ s (s.toks + binds.length) (by omega) (by omega)
    ⟨hns, gl, Nat.le_of_eq (hideAll_size _ _)⟩ (fun p hp => by rw [List.mem_singleton.mp hp]; exact ⟨hk₁ _ _ hpl, npl, hideAll_none _ (.head _)⟩) BG (X.keeps st) (T.keeps st)
    (hl.at fun o q => hideAll_get _ q (fun q => hne (List.mem_singleton.mp q))) hi
  have eA : A.deeper (callEnv (fnOf name qual params body scope dV kV doc pm an cdv ct) s.heap.objs.size f) = { handled := none, depth := A.depth + 1, frames := some (envX qual scope s.heap.objs.size f cdv [] :: env :: outer), guards := A.guards, units := A.units + 3 } := by
    obtain ⟨ha, de, fr, gu, un⟩ := A
    dsimp only at hh hA
    subst hh hA
    rfl
  rw [eA]
  refine wpAny_mono e (fun fl s' hl => ?_) (fun _ _ x => x.elim)
  obtain ⟨h', tk, t, t1, rfl, hs, hp, hv⟩ := hl
  have := ret t t1 h' tk (fun b o hb q => hs b o (hideAll_get _ q (fun q => hb (List.mem_singleton.mp q)))) hp
  dsimp only at hv ⊢
  cases fl <;> simp_all
end
section
variable {w : World} {mean : ExcName → Option Value} {mg mb : Str → Option Value} {A A₀ : Around} {base h₀ : Heap} {outer : List Env} {L : Addr} {m : Str → Option Value} {env : Env} {s : Shared}
  {d : Nat} {f : Addr} {vs : List Value} {Q : Value → Shared → Prop} {E : Value → Shared → Prop}
theorem ne_addr {l : List (Addr × Obj)} {a : Addr} (h : ∀ x ∈ l.map (·.1), x ≠ a) : ∀ p ∈ l, p.1 ≠ a := fun _ hp => h _ (List.mem_map_of_mem hp)
theorem use_draw {pl D : Addr} {n nD : Nat} {k i : Int} {t0 : Tok} {ys : List Value} {ns : List Int} {pre post : List (Addr × Obj)} (S : SpecD d f pl D n k t0 ys ns vs (k + 1) i) (B : Below A₀ base outer h₀) (F : Fr h₀ L s.heap m) (X : (K w.params).In h₀)
    (N : News h₀ L s.heap (pre ++ (pl, poolO D k t0 n) :: post)) (T : Top hd.view_39 lse mean mg mb h₀) (hA : A.frames = some (env :: outer)) (hf : env.frame = some L) (hk : env.scope.kind = .function) (hh : A.handled = none) (hdp : A.depth + d < recursionLimit) (hun : A.units + 8 * d < cLine)
    (hD : (D, W.listOf (List.toArray ys) nD) ∈ pre ++ post) (hi : IntsAre ys ns) (ne : ∀ p ∈ pre ++ post, p.1 ≠ pl)
    (ret : ∀ v t t1 h' tk, v = i → (∀ x ∈ (pre ++ post).map (·.1), x ≠ pl) → Fr h₀ L h' m → News h₀ L h' (pre ++ (pl, poolO D (k + 1) t1 n) :: post) → Q (.int v t) { s with heap := h', toks := tk }) :
    wpAny (model PySem.Challenge.rw_sa0088_01.row.prog w) A (call (.ref f) vs) Q E s := by
  have hsub : ∀ p ∈ pre ++ post, p ∈ pre ++ (pl, poolO D k t0 n) :: post := fun p hp => (List.mem_append.mp hp).elim (fun h => List.mem_append_left _ h) fun h => List.mem_append_right _ (List.mem_cons_of_mem _ h)
  have hpl := N (pl, poolO D k t0 n) (List.mem_append_right _ (.head _))
  refine S w mean mg mb A A₀ base h₀ outer L m env s Q E B F (fun p hp => by rw [List.mem_singleton.mp hp]; exact hpl) X T hA hf hk hh hdp hun ⟨_, (N _ (hsub _ hD)).1, rfl, nD, rfl⟩ hi (ne _ hD) fun t t1 h' tk hs hp => ?_
  obtain ⟨oL, es, ep, hL, r'⟩ := F.ns
  refine ret i t t1 h' tk rfl (fun x hx => by obtain ⟨q, hq, rfl⟩ := List.mem_map.mp hx; exact ne q hq) ⟨⟨oL, es, ep, hs _ _ (Ne.symm hpl.2.1) hL, r'⟩, fun b o e => hs _ _ (fun q => by rw [q, hpl.2.2] at e; cases e) (F.keep b o e), F.above⟩ fun p hq => ?_
  rcases List.mem_append.mp hq with hq | hq
  · exact ⟨hs _ _ (ne _ (List.mem_append_left _ hq)) (N _ (hsub _ (List.mem_append_left _ hq))).1, (N _ (hsub _ (List.mem_append_left _ hq))).2⟩
  · rcases List.mem_cons.mp hq with rfl | hq
    · exact ⟨hp, hpl.2⟩
    · exact ⟨hs _ _ (ne _ (List.mem_append_right _ hq)) (N _ (hsub _ (List.mem_append_right _ hq))).1, (N _ (hsub _ (List.mem_append_right _ hq))).2⟩
end
theorem draw_bnd (ns : List Int) (k : Int) {many : Int} (h : 2 ≤ many) : 0 ≤ drawF ns k many ∧ drawF ns k many < many := by
  unfold drawF
  split
  · exact ⟨Int.fmod_nonneg_of_pos _ (by omega), Int.fmod_lt_of_pos _ (by omega)⟩
  · exact ⟨Int.fmod_nonneg_of_pos _ (by omega), Int.fmod_lt_of_pos _ (by omega)⟩
theorem law_room {e : Env} {d : Nat} (h : d ≤ 60) : (callerA.deeper e).depth + d < recursionLimit := by
  rw [depth_deeper, depth_caller]; unfold recursionLimit; omega
theorem law_units {e : Env} {d : Nat} (h : d ≤ 60) : (callerA.deeper e).units + 8 * d < cLine := by
  have := cLine_is
  rw [units_deeper, units_caller]; unfold cLine; omega
theorem draw_eq {ns : List Int} {k many v : Int} (h : v = drawF ns k many) (hm : 2 ≤ many) : 0 ≤ v ∧ v < many := h ▸ draw_bnd ns k hm
-- Sdraw
set_option maxHeartbeats 8000000 in
theorem spec_draw (pl D : Addr) (n : Nat) (k many : Int) (t0 tm : Tok) (ys : List Value) (ns : List Int) (hk0 : 0 ≤ k) (hk : k ≤ 40) (hm : 2 ≤ many) (hm7 : many ≤ 7) (hns : ns.length ≤ 100) : SpecD 2 192 pl D n k t0 ys ns [.ref pl, .int many tm] (k + 1) (drawF ns k many) := by
  k_with_none
  w_top off
  refine' specD_of (binds := [(Str.ofString "pool", Value.ref pl), (Str.ofString "many", Value.int many tm)]) ?ho ?hcd ?hb ?hl ?main ?h1 ?hc ?c1 ?c2 ?c3
  case ho => intro P; rfl
  case hcd => intro P; rfl
  case hb => intro s; exact BindsTo.of_eq rfl
  case hl => exact locs rfl
  case h1 => decide
  case hc => decide
  case c1 => rfl
  case c2 => rfl
  case c3 => rfl
  k_fill
  intro w mean mg mb dp un gd A₀ base g outer L' h₁ s tk hdp hun F N B X T hL hI
  obtain ⟨sh, gs, dr, stk, os⟩ := s
  (try dsimp only)
  (with_reducible show wpAny _ _ _ _ _ _)
  k_fold
  k_steps
  all_goals (try (exact fin_draw (by assumption) (by assumption) (by k_mem) rfl (by unfold drawF; first | exact (if_pos (by first | assumption | omega)).symm | exact (if_neg (by first | assumption | omega)).symm)))
  all_goals trace_state
-- Field
noncomputable def fP (i : Int) : Int := [2, 2, 2, 2, 2, 3, 3].getD i.toNat 0
noncomputable def fM (i : Int) : List Int := [[1, 1, 0, 0, 1], [1, 1, 0, 1], [1, 0, 0, 1, 1], [1, 1, 1, 1, 1], [1, 1, 1], [1, 2, 0, 1], [1, 0, 1]].getD i.toNat []
noncomputable def fE (i : Int) : Int := [2, 1, 2, 2, 1, 1, 1].getD i.toNat 0
theorem seven {i : Int} (h0 : 0 ≤ i) (h1 : i < 7) : i = 0 ∨ i = 1 ∨ i = 2 ∨ i = 3 ∨ i = 4 ∨ i = 5 ∨ i = 6 := by
  obtain ⟨n, rfl⟩ := Int.eq_ofNat_of_zero_le h0
  have all : ∀ j : _root_.Fin 7, ((j.val : Nat) : Int) = 0 ∨ ((j.val : Nat) : Int) = 1 ∨ ((j.val : Nat) : Int) = 2 ∨ ((j.val : Nat) : Int) = 3 ∨ ((j.val : Nat) : Int) = 4 ∨ ((j.val : Nat) : Int) = 5 ∨ ((j.val : Nat) : Int) = 6 := by decide
  exact all ⟨n, Int.ofNat_lt.mp h1⟩
theorem fOK {i : Int} (h0 : 0 ≤ i) (h1 : i < 7) : FOK (fP i) (fM i) := by
  have sm : ∀ xs : List Int, slB xs = true → Sm xs := fun xs h => (slB_iff h).1
  rcases seven h0 h1 with rfl | rfl | rfl | rfl | rfl | rfl | rfl <;> exact ⟨by decide, by decide, sm _ (by decide), by decide, by decide, by decide⟩
section
variable {prog : Program} {w : World} {A : Around} {E : Value → Shared → Prop} {s : Shared} {h₀ : Heap} {L : Addr} {m : Str → Option Value}
noncomputable def FieldFact (h₀ h : Heap) (ft : Addr) (i : Int) : Prop := ∃ ma vm p e tp te, IsTup h ft #[.int p tp, .ref ma, .int e te] ∧ h₀.IsList ma (List.toArray vm) ∧ IntsAre vm (fM i) ∧ p = fP i ∧ e = fE i
theorem item_field {value slice : Expr} {i : Int} {u : Tok} {Q : Value → Shared → Prop} (X : (K w.params).In h₀) (F : Fr h₀ L s.heap m) (h0 : 0 ≤ i) (h1 : i < 7)
    (h : ∀ ft ma vm p e tp te, IsTup s.heap ft #[.int p tp, .ref ma, .int e te] → h₀.IsList ma (List.toArray vm) → IntsAre vm (fM i) → p = fP i → e = fE i → Q (.ref ft) s)
    (hs : subscripted slice false (.ref 185) (.int i u) = operate [.ref 185, .int i u] (getItem (.ref 185) (.int i u))) (hg : ∀ r, letTemporaryGo value (.ref 185) r = pure ()) :
    wpAny (model prog w) A (subscriptTail value slice (.ref 185) (.int i u)) Q E s := by
  have ht : IsTup s.heap 185 #[Value.ref 172, Value.ref 174, Value.ref 176, Value.ref 178, Value.ref 180, Value.ref 182, Value.ref 184] := ⟨_, F.keep _ _ (X 185 _ rfl), rfl, _, rfl⟩
  have one : ∀ (j : Nat) (ft ma : Addr) (vm : List Value) (p e : Int) (tp te : Tok) (o1 o2 : Obj), (K w.params).lookup ft = some o1 → (K w.params).lookup ma = some o2 → o1.cls = .type "tuple" → (∃ n, o1.data = .seq #[.int p tp, .ref ma, .int e te] n) → o2.cls = .type "list" → (∃ n, o2.data = .seq (List.toArray vm) n) →
      IntsAre vm (fM (j : Int)) → p = fP (j : Int) → e = fE (j : Int) → i = (j : Int) → (#[Value.ref 172, Value.ref 174, Value.ref 176, Value.ref 178, Value.ref 180, Value.ref 182, Value.ref 184] : Array Value)[j]? = some (.ref ft) → j < 7 →
      wpAny (model prog w) A (subscriptTail value slice (.ref 185) (.int i u)) Q E s := by
    intro j ft ma vm p e tp te o1 o2 l1 l2 c1 d1 c2 d2 iv ep ee ei hj hlt
    subst ei
    refine item_tuple ht (by omega) (by omega) (j := j) ?_ hj (h ft ma vm p e tp te ⟨o1, F.keep _ _ (X _ _ l1), c1, d1⟩ ⟨o2, X _ _ l2, c2, d2⟩ iv ep ee) hs hg
    exact seqIndex_of (by omega) (by show (j : Int) < 7; omega)
  rcases seven h0 h1 with e | e | e | e | e | e | e
  · exact one 0 172 171 [_, _, _, _, _] _ _ _ _ _ _ rfl rfl rfl ⟨_, rfl⟩ rfl ⟨_, rfl⟩ (.cons _ _ (.cons _ _ (.cons _ _ (.cons _ _ (.cons _ _ .nil))))) rfl rfl e rfl (by omega)
  · exact one 1 174 173 [_, _, _, _] _ _ _ _ _ _ rfl rfl rfl ⟨_, rfl⟩ rfl ⟨_, rfl⟩ (.cons _ _ (.cons _ _ (.cons _ _ (.cons _ _ .nil)))) rfl rfl e rfl (by omega)
  · exact one 2 176 175 [_, _, _, _, _] _ _ _ _ _ _ rfl rfl rfl ⟨_, rfl⟩ rfl ⟨_, rfl⟩ (.cons _ _ (.cons _ _ (.cons _ _ (.cons _ _ (.cons _ _ .nil))))) rfl rfl e rfl (by omega)
  · exact one 3 178 177 [_, _, _, _, _] _ _ _ _ _ _ rfl rfl rfl ⟨_, rfl⟩ rfl ⟨_, rfl⟩ (.cons _ _ (.cons _ _ (.cons _ _ (.cons _ _ (.cons _ _ .nil))))) rfl rfl e rfl (by omega)
  · exact one 4 180 179 [_, _, _] _ _ _ _ _ _ rfl rfl rfl ⟨_, rfl⟩ rfl ⟨_, rfl⟩ (.cons _ _ (.cons _ _ (.cons _ _ .nil))) rfl rfl e rfl (by omega)
  · exact one 5 182 181 [_, _, _, _] _ _ _ _ _ _ rfl rfl rfl ⟨_, rfl⟩ rfl ⟨_, rfl⟩ (.cons _ _ (.cons _ _ (.cons _ _ (.cons _ _ .nil)))) rfl rfl e rfl (by omega)
  · exact one 6 184 183 [_, _, _] _ _ _ _ _ _ rfl rfl rfl ⟨_, rfl⟩ rfl ⟨_, rfl⟩ (.cons _ _ (.cons _ _ (.cons _ _ .nil))) rfl rfl e rfl (by omega)
end
theorem fB {i : Int} (h0 : 0 ≤ i) (h1 : i < 7) : (2 ≤ fP i ∧ fP i ≤ 3 ∧ 1 ≤ fE i ∧ fE i ≤ 2 ∧ 3 ≤ (fM i).length ∧ (fM i).length ≤ 5) ∧ (1 ≤ (((fM i).length : Int) - 1).fdiv (fE i) ∧ (((fM i).length : Int) - 1).fdiv (fE i) ≤ 4) ∧ (fP i ^ (fE i).toNat = 2 ∨ fP i ^ (fE i).toNat = 3 ∨ fP i ^ (fE i).toNat = 4) ∧ (fP i = 2 ∨ fP i = 3 ∨ fP i = 4) := by
  rcases seven h0 h1 with rfl | rfl | rfl | rfl | rfl | rfl | rfl <;> decide
-- CompD
open PyProof.Rows.LCg
section
variable {prog : Program} {w : World} {A : Around} {h₀ : Heap} {L : Addr} {m : Str → Option Value} {env : Env} {elt : Expr} {x : Str} {scope : Scope} {cl : List (Str × Addr)} {s : Shared} {S : List (Addr × Obj) → Prop} {P : Nat → Value → Prop} {Fin : List Value → List (Addr × Obj) → Prop}
theorem compEnd_mono {I C D : Addr} {s₁ s₂ : Shared} {oI oC oD : Obj} {y : Value} {r r' : Value → List (Addr × Obj) → Prop} (h : CompEnd h₀ L m s₁ I oI C oC D oD S r y s₂) (k : ∀ nw, r y nw → r' y nw) : CompEnd h₀ L m s₁ I oI C oC D oD S r' y s₂ := by
  obtain ⟨h', tk, nw, e, F, N, o, hs, hr⟩ := h
  exact ⟨h', tk, nw, e, F, N, o, hs, k nw hr⟩
/-- a comprehension by what holds between its turns -/
theorem compRest_inv {n : Nat} (J : Nat → List Value → List (Addr × Obj) → Prop)
    (turn : ∀ i ys news v I oI C oC D m₂ h tk (E' : Value → Shared → Prop), i < n → J i ys news → P i v → NsObj oC m₂ → m₂ x = some v → Fr h₀ L h m → News h₀ L h ((I, oI) :: (C, oC) :: (D, lst ys) :: news) → Off3 I C D news → ((@Ne Nat I C) ∧ (@Ne Nat I D) ∧ (@Ne Nat C D)) →
      wpAny (model prog w) A (eval elt (compEnvC scope cl C env)) (CompEnd h₀ L m { s with heap := h, toks := tk } I oI C oC D (lst ys) S (fun y news' => J (i + 1) (ys ++ [y]) news')) E' { s with heap := h, toks := tk })
    (done : ∀ ys news, J n ys news → Fin ys news) : ∀ k i ys news, i + k = n → J i ys news → CompRest prog w A h₀ L m env elt x scope cl s S P Fin k i ys news := by
  intro k
  induction k with
  | zero => intro i ys news e hj; exact done ys news (by have : i = n := by omega
                                                         exact this ▸ hj)
  | succ k ih =>
    intro i ys news e hj
    intro v I oI C oC D m₂ h tk E' hP hoC hx F N o ne
    exact wpAny_mono (turn i ys news v I oI C oC D m₂ h tk E' (by omega) hj hP hoC hx F N o ne) (fun y s₂ hc => compEnd_mono hc fun nw hr => ih (i + 1) (ys ++ [y]) nw (by omega) hr) fun _ _ q => q
noncomputable def drawsF (ns : List Int) (k p : Int) (n : Nat) : List Int := (List.range n).map fun (j : Nat) => drawF ns (k + (j : Int)) p
theorem draws_snoc (ns : List Int) (k p : Int) (n : Nat) : drawsF ns k p (n + 1) = drawsF ns k p n ++ [drawF ns (k + (n : Int)) p] := by
  unfold drawsF
  rw [List.range_succ, List.map_append]; rfl
theorem ints_snoc {vs : List Value} {ns : List Int} {i : Int} {t : Tok} (h : IntsAre vs ns) : IntsAre (vs ++ [.int i t]) (ns ++ [i]) := by
  induction h with
  | nil => exact IntsAre.cons _ _ IntsAre.nil
  | cons a b _ ih => exact IntsAre.cons _ _ ih
noncomputable def JDraw (pl D : Addr) (nn : Nat) (ns : List Int) (k p : Int) (pre post : List (Addr × Obj)) (i : Nat) (ys : List Value) (news : List (Addr × Obj)) : Prop :=
  ∃ t1, news = pre ++ (pl, poolO D (k + (i : Int)) t1 nn) :: post ∧ IntsAre ys (drawsF ns k p i)
/-- the comprehension that draws -/
theorem comp_draws {r : Addr} {a b : Int} {t u v : Tok} {n : Nat} {pl D : Addr} {nn : Nat} {ns : List Int} {k p : Int} {t1 : Tok} {pre post : List (Addr × Obj)} {s₁ : Shared} {Fin2 : Shared → List Value → List (Addr × Obj) → Prop}
    (hh : A.handled = none) (F : Fr h₀ L s₁.heap m) (N : News h₀ L s₁.heap (pre ++ (pl, poolO D k t1 nn) :: post)) (hr : IsRange s₁.heap r a b 1 t u v) (hsm : Builtin.Range.small a b 1 = true) (hn : Builtin.Range.rangeSize a b 1 = ((n : Nat) : Int)) (hsz : n ≤ sizeLine)
    (turn : ∀ i ys t1 v I oI C oC E m₂ h tk (E' : Value → Shared → Prop), i < n → IntsAre ys (drawsF ns k p i) → NsObj oC m₂ → m₂ x = some v → Fr h₀ L h m → News h₀ L h ((I, oI) :: (C, oC) :: (E, lst ys) :: (pre ++ (pl, poolO D (k + (i : Int)) t1 nn) :: post)) → Off3 I C E (pre ++ (pl, poolO D (k + (i : Int)) t1 nn) :: post) → ((@Ne Nat I C) ∧ (@Ne Nat I E) ∧ (@Ne Nat C E)) →
      wpAny (model prog w) A (eval elt (compEnvC scope cl C env)) (CompEnd h₀ L m { s₁ with heap := h, toks := tk } I oI C oC E (lst ys) (fun _ => True) (fun y news' => JDraw pl D nn ns k p pre post (i + 1) (ys ++ [y]) news')) E' { s₁ with heap := h, toks := tk })
    (done : ∀ (g : Heap) ys t1, IntsAre ys (drawsF ns k p n) → Fin2 { s₁ with heap := g } ys (pre ++ (pl, poolO D (k + (n : Int)) t1 nn) :: post)) :
    CompSrc prog w A h₀ L m env elt x scope cl Fin2 (.ref r) s₁ := by
  refine CompSrc.range hh F N hr hsm hn hsz fun g => compRest_inv (JDraw pl D nn ns k p pre post) ?_ ?_ n 0 [] _ (Nat.zero_add n) ⟨t1, by simp, IntsAre.nil⟩
  · rintro i ys news v I oI C oC E m₂ h tk E' hi ⟨t1, rfl, hI⟩ _ hoC hx F₁ N₁ o ne
    exact turn i ys t1 v I oI C oC E m₂ h tk E' hi hI hoC hx F₁ N₁ o ne
  · rintro ys news ⟨t1, rfl, hI⟩
    exact done g ys t1 hI
theorem end_draw {pl D : Addr} {nn : Nat} {ns : List Int} {k p v : Int} {t1 t : Tok} {pre post news : List (Addr × Obj)} {i : Nat} {ys : List Value} (e : news = pre ++ (pl, poolO D (k + (i : Int) + 1) t1 nn) :: post) (hi : IntsAre ys (drawsF ns k p i)) (hv : v = drawF ns (k + (i : Int)) p) :
    JDraw pl D nn ns k p pre post (i + 1) (ys ++ [.int v t]) news := by
  have e1 : k + ((i + 1 : Nat) : Int) = k + (i : Int) + 1 := by omega
  refine ⟨t1, by rw [e1]; exact e, ?_⟩
  rw [draws_snoc, hv]
  exact ints_snoc hi
end
-- PureC
theorem trim_zero (xs : List Int) : trimF (xs ++ [0]) = trimF xs := by
  induction xs with
  | nil => rfl
  | cons x r ih => rw [List.cons_append, trimF, ih, trimF]
theorem trim_full {xs : List Int} (h : xs.length ≠ 0) (hl : lastF xs ≠ 0) : trimF xs = xs := by
  have e := trim_nat xs xs.length (Nat.le_refl _) (fun j h1 h2 => by omega) (fun i hi => by
    unfold lastF at hl
    have : (-1 + (xs.length : Int)).toNat = i := by omega
    rwa [this] at hl)
  rw [List.take_length] at e
  exact e.symm
theorem trim_cut {xs : List Int} (h : xs.length ≠ 0) (hl : lastF xs = 0) : trimF (xs.take (xs.length - 1)) = trimF xs := by
  have e : xs.take (xs.length - 1) ++ [0] = xs := by
    have h1 : xs.take (xs.length - 1 + 1) = xs := by rw [Nat.sub_add_cancel (by omega)]; exact List.take_length
    rw [List.take_add_one] at h1
    have h2 : xs[xs.length - 1]? = some 0 := by
      unfold lastF at hl
      have h3 : (-1 + (xs.length : Int)).toNat = xs.length - 1 := by omega
      rw [h3, List.getD_eq_getElem?_getD, List.getElem?_eq_getElem (by omega)] at hl
      rw [List.getElem?_eq_getElem (by omega)]
      exact congrArg some hl
    rw [h2] at h1
    exact h1
  conv => rhs; rw [← e]
  rw [trim_zero]
-- Scut
theorem ne_nil {prog : Program} {w : World} {A : Around} {E : Value → Shared → Prop} {s : Shared} {a b : Addr} {vs : List Value} {ns : List Int} {Q : Value → Shared → Prop} (hl : s.heap.IsList a vs.toArray) (hi : IntsAre vs ns) (hl' : s.heap.IsList b (List.toArray [])) (hu : A.units + 64 < cLine)
    (h0 : ns = [] → Q (.bool false) s) (h1 : 1 ≤ ns.length → Q (.bool true) s) : wpAny (model prog w) A (compareOp .NotEq (.ref a) (.ref b)) Q E s := by
  refine ne_intsK hl hi hl' IntsAre.nil hu ?_
  by_cases h : ns = []
  · have : (!decide (ns = [])) = false := by simp [h]
    rw [this]; exact h0 h
  · have : (!decide (ns = [])) = true := by simp [h]
    rw [this]; exact h1 (by cases ns with | nil => exact absurd rfl h | cons a r => simp)
theorem nonil_f {xs : List Int} (h : xs = []) : (!decide (xs = [])) = false := by simp [h]
theorem nonil_t {xs : List Int} (h : ¬ xs = []) : (!decide (xs = [])) = true := by simp [h]
theorem nonil_len {xs : List Int} (h : ¬ xs = []) : 1 ≤ xs.length := by cases xs with | nil => exact absurd rfl h | cons a r => simp
structure S1 where
  a : Addr
  v : List Value
  k : Nat
  xs : List Int
  ex : List (Addr × Obj)
noncomputable def P1 (row : Addr) (vs : List Value) (xs : List Int) (c : S1) : Prop := ((c.ex = [] ∧ c.a = row ∧ c.v = vs ∧ c.xs = xs) ∨ c.ex = [LO c.a c.v c.k]) ∧ IntsAre c.v c.xs ∧ trimF c.xs = trimF xs ∧ c.xs.length ≤ 40
/-- the list itself, or a new one -/
noncomputable def CutR (row : Addr) (xs : List Int) (g h' : Heap) (r : Value) : Prop := ∃ a, r = .ref a ∧ ((a = row ∧ trimF xs = xs) ∨ (g.get? a = none ∧ ∃ vs n, h'.get? a = some (W.listOf (List.toArray vs) n) ∧ IntsAre vs (trimF xs)))
theorem fin_cutO {g h' : Heap} {L' row : Addr} {m' : Str → Option Value} {s : Shared} {xs : List Int} {tk : Nat} (F : Fr g L' h' m') (e : trimF xs = xs) : Fin g s (CutR row xs) (.ref row) ⟨h', s.gens, s.drawn, tk, s.os⟩ := ⟨h', tk, rfl, F.keep, row, rfl, .inl ⟨rfl, e⟩⟩
theorem fin_cutN {g h' : Heap} {L' row a : Addr} {m' : Str → Option Value} {s : Shared} {xs ys : List Int} {vs : List Value} {n : Nat} {news : List (Addr × Obj)} {tk : Nat} (F : Fr g L' h' m') (N : News g L' h' news) (hm : (a, W.listOf (List.toArray vs) n) ∈ news) (hi : IntsAre vs ys) (e : ys = trimF xs) : Fin g s (CutR row xs) (.ref a) ⟨h', s.gens, s.drawn, tk, s.os⟩ :=
  ⟨h', tk, rfl, F.keep, a, rfl, .inr ⟨(N _ hm).2.2, vs, n, (N _ hm).1, e ▸ hi⟩⟩
set_option maxHeartbeats 8000000 in
theorem spec_cut (a : Addr) (xs : List Int) (hx : xs.length ≤ 40) : Spec 9 199 [.ref a] (fun h => LI h a xs) (CutR a xs) := by
  k_with_none
  w_top off
  refine' spec_of (binds := [(Str.ofString "row", Value.ref a)]) ?ho ?hcd ?hb ?hl ?main ?h1 ?hc ?c1 ?c2 ?c3
  case ho => intro P; rfl
  case hcd => intro P; rfl
  case hb => intro s; exact BindsTo.of_eq rfl
  case hl => exact locs rfl
  case h1 => decide
  case hc => decide
  case c1 => rfl
  case c2 => rfl
  case c3 => rfl
  k_fill
  intro w mean mg mb dp un gd A₀ base g outer L' h₁ s tk hdp hun hpre F N B X T
  obtain ⟨sh, gs, dr, stk, os⟩ := s
  refine li1 hpre fun vs hL hI => ?_
  k_with "exec While BoolOp cons nil" => (k_here; (rename Fr _ _ _ _ => lF'); (rename News _ _ _ _ => lN'); (with_unfolding_all refine' while_two (σ := S1) (fun c => c.ex) (fun c => c.a) (fun c => c.a) (Str.ofString "row") (Str.ofString "row") [] (P1 a vs xs) (fun c => c.xs.length) (⟨a, vs, 0, xs, []⟩ : S1) lF' lN' (fun _ h => nomatch h) ?e1 ?e2 ⟨.inl ⟨rfl, rfl, rfl, rfl⟩, hI, rfl, hx⟩ ?_ (by passes_own)); (case e1 => with_unfolding_all exact rfl); (case e2 => with_unfolding_all exact rfl); (with_unfolding_all rintro ⟨a9, v9, k9, xs9, ex9⟩ u9 h9 tk9 ⟨hmd9, i19, hT9, hl9⟩ F9 N9); (try clear lF' lN'); (dsimp only at hmd9 i19 hT9 hl9 F9 N9); (rcases hmd9 with ⟨rfl, rfl, rfl, rfl⟩ | rfl) <;> (try dsimp only) <;> (try k_fold))
  k_with "compareOp NotEq ref ref" => ((with_reducible show wpAny _ _ (compareOp CmpOp.NotEq (Value.ref _) (Value.ref _)) _ _ _); k_here; (with_unfolding_all refine' ne_nil ?k1 i19 ?k3 ?k5 (fun hx9 => ?_) (fun hlen9 => ?_)); (case k1 => with_unfolding_all is_list); (case k3 => with_unfolding_all is_list); (case k5 => with_unfolding_all (show un + 64 < cLine; omega)); (all_goals (try dsimp only)))
  k_with "WEnd" => ((with_reducible show WEnd _ _ _ _ _ _ _ _ _ _ _ _ _ _); refine Mine.stopAt ?_)
  (try dsimp only)
  (with_reducible show wpAny _ _ _ _ _ _)
  k_fold
  k_steps
  all_goals (try (exact fin_cutO (by assumption) (by first | (subst hx9; rfl) | exact trim_full (by omega) (by first | assumption | (unfold lastF; assumption)))))
  all_goals (try (exact fin_cutN (by assumption) (by assumption) (by k_mem) (by l_ints) (by rw [← hT9]; first | (subst hx9; rfl) | exact (trim_full (by omega) (by first | assumption | (unfold lastF; assumption))).symm)))
  all_goals (try ((with_reducible show StopAt _); (refine stopOff ?_); (refine' endW (⟨_, _, _, xs9.take (xs9.length - 1), [LO _ _ _]⟩ : S1) (by assumption) (by assumption) ?e1 ?e2 (mcons ?m1 mnil) ?hr ⟨.inr rfl, ?i1, ?ht, ?hl⟩ ?hm); (case e1 => with_unfolding_all exact rfl); (case e2 => with_unfolding_all exact rfl); (case m1 => with_unfolding_all k_mem); (case hr => (intro z h1 h2 h3; first | rfl | (simp only [if_neg h1]; done) | (simp_all; done))); (case i1 => l_ints); (case ht => exact (trim_cut (by omega) (by first | assumption | (unfold lastF; assumption))).trans hT9); (case hl => (show (xs9.take (xs9.length - 1)).length ≤ 40; rw [List.length_take]; omega)); (case hm => (show (xs9.take (xs9.length - 1)).length < xs9.length; rw [List.length_take]; omega))))
  all_goals trace_state
-- CompE
open PyProof.Rows.LCg
section
variable {w : World} {mean : ExcName → Option Value} {mg mb : Str → Option Value} {A A₀ : Around} {base h₀ : Heap} {outer : List Env} {L : Addr} {m : Str → Option Value} {env : Env} {s : Shared} {d : Nat} {f : Addr} {pre : Heap → Prop} {Q : Value → Shared → Prop} {E : Value → Shared → Prop}
theorem use_cut {row : Addr} {xs : List Int} {vs : List Value} {k : Nat} {rest : List (Addr × Obj)} (S : Spec d f [.ref row] pre (CutR row xs)) (B : Below A₀ base outer h₀) (F : Fr h₀ L s.heap m) (X : (K w.params).In h₀) (N : News h₀ L s.heap ((row, W.listOf (List.toArray vs) k) :: rest)) (T : Top hd.view_39 lse mean mg mb h₀)
    (hA : A.frames = some (env :: outer)) (hf : env.frame = some L) (hk : env.scope.kind = .function) (hh : A.handled = none) (hdp : A.depth + d < recursionLimit) (hun : A.units + 8 * d < cLine) (hp : pre s.heap) (hi : IntsAre vs xs) (hne : ∀ p ∈ rest, p.1 ≠ row)
    (ret : ∀ r v n h' tk, Fr h₀ L h' m → News h₀ L h' (LO r v n :: rest) → (∀ p ∈ rest, p.1 ≠ r) → IntsAre v (trimF xs) → Q (.ref r) { s with heap := h', toks := tk }) :
    wpAny (model PySem.Challenge.rw_sa0088_01.row.prog w) A (call (.ref f) [.ref row]) Q E s := by
  refine use_spec S B F X N T hA hf hk hh hdp hun hp fun r h' tk hpost hs F' N' => ?_
  obtain ⟨a, rfl, ⟨rfl, e⟩ | ⟨hn, v, n, ha, hv⟩⟩ := hpost
  · exact ret a vs k h' tk F' N' hne (e.symm ▸ hi)
  · obtain ⟨a1, a2, a3⟩ := new_facts F N hn
    refine ret a v n h' tk F' (fun p hp => ?_) (fun p hp => a3 p (List.mem_cons_of_mem _ hp)) hv
    rcases List.mem_cons.mp hp with rfl | hp
    · exact ⟨ha, a1, a2⟩
    · exact N' p (List.mem_cons_of_mem _ hp)
end
section
variable {prog : Program} {w : World} {A : Around} {h₀ : Heap} {L : Addr} {m : Str → Option Value} {env : Env} {elt : Expr} {x : Str} {scope : Scope} {cl : List (Str × Addr)}
/-- between the turns of the comprehension that cuts -/
noncomputable def JCut (pl D : Addr) (nn : Nat) (k1 k2 : Int) (k : Int) (X1 X2 : List Int) (pre post : List (Addr × Obj)) : Nat → List Value → List (Addr × Obj) → Prop
  | 0, ys, news => ys = [] ∧ ∃ t, news = pre ++ (pl, poolO D k t nn) :: post
  | 1, ys, news => ∃ a va ka t, ys = [.ref a] ∧ news = LO a va ka :: (pre ++ (pl, poolO D k1 t nn) :: post) ∧ a ≠ pl ∧ IntsAre va X1
  | _, ys, news => ∃ a va ka b vb kb t, ys = [.ref a, .ref b] ∧ news = LO b vb kb :: LO a va ka :: (pre ++ (pl, poolO D k2 t nn) :: post) ∧ a ≠ pl ∧ b ≠ pl ∧ IntsAre va X1 ∧ IntsAre vb X2
/-- the list that is built goes first in the ledger's facts: none of what stands is the pool -/
theorem off_pool {I C E pl : Addr} {oI oC oE po : Obj} {pre post : List (Addr × Obj)} (o : Off3 I C E (pre ++ (pl, po) :: post)) (hne : ∀ p ∈ pre ++ post, p.1 ≠ pl) : ∀ p ∈ (I, oI) :: (C, oC) :: (E, oE) :: (pre ++ post), p.1 ≠ pl := by
  have hp := o.mem (pl, po) (List.mem_append_right _ (List.mem_cons_self ..))
  intro p hm
  rcases List.mem_cons.mp hm with rfl | hm
  · exact fun e => hp.1 e.symm
  rcases List.mem_cons.mp hm with rfl | hm
  · exact fun e => hp.2.1 e.symm
  rcases List.mem_cons.mp hm with rfl | hm
  · exact fun e => hp.2.2 e.symm
  · exact hne p hm
theorem comp_cuts {r : Addr} {t u v : Tok} {pl D : Addr} {nn : Nat} {k k1 k2 : Int} {X1 X2 : List Int} {t1 : Tok} {pre post : List (Addr × Obj)} {s₁ : Shared} {Fin2 : Shared → List Value → List (Addr × Obj) → Prop}
    (hh : A.handled = none) (F : Fr h₀ L s₁.heap m) (N : News h₀ L s₁.heap (pre ++ (pl, poolO D k t1 nn) :: post)) (hr : IsRange s₁.heap r 0 2 1 t u v) (hne : ∀ p ∈ pre ++ post, p.1 ≠ pl)
    (turn0 : ∀ t1 I oI C oC E m₂ h tk (E' : Value → Shared → Prop), NsObj oC m₂ → Fr h₀ L h m → News h₀ L h ((I, oI) :: (C, oC) :: (E, lst []) :: (pre ++ (pl, poolO D k t1 nn) :: post)) → Off3 I C E (pre ++ (pl, poolO D k t1 nn) :: post) → ((@Ne Nat I C) ∧ (@Ne Nat I E) ∧ (@Ne Nat C E)) →
      (∀ p ∈ (I, oI) :: (C, oC) :: (E, lst []) :: (pre ++ post), p.1 ≠ pl) →
      wpAny (model prog w) A (eval elt (compEnvC scope cl C env)) (CompEnd h₀ L m { s₁ with heap := h, toks := tk } I oI C oC E (lst []) (fun _ => True) (fun y news' => JCut pl D nn k1 k2 k X1 X2 pre post 1 [y] news')) E' { s₁ with heap := h, toks := tk })
    (turn1 : ∀ a va ka t1 I oI C oC E m₂ h tk (E' : Value → Shared → Prop), IntsAre va X1 → a ≠ pl → NsObj oC m₂ → Fr h₀ L h m → News h₀ L h ((I, oI) :: (C, oC) :: (E, lst [.ref a]) :: LO a va ka :: (pre ++ (pl, poolO D k1 t1 nn) :: post)) → Off3 I C E (LO a va ka :: (pre ++ (pl, poolO D k1 t1 nn) :: post)) → ((@Ne Nat I C) ∧ (@Ne Nat I E) ∧ (@Ne Nat C E)) →
      (∀ p ∈ (I, oI) :: (C, oC) :: (E, lst [.ref a]) :: LO a va ka :: (pre ++ post), p.1 ≠ pl) →
      wpAny (model prog w) A (eval elt (compEnvC scope cl C env)) (CompEnd h₀ L m { s₁ with heap := h, toks := tk } I oI C oC E (lst [.ref a]) (fun _ => True) (fun y news' => JCut pl D nn k1 k2 k X1 X2 pre post 2 [.ref a, y] news')) E' { s₁ with heap := h, toks := tk })
    (done : ∀ (g : Heap) a va ka b vb kb t1, IntsAre va X1 → IntsAre vb X2 → (∀ p ∈ LO b vb kb :: LO a va ka :: (pre ++ post), p.1 ≠ pl) → Fin2 { s₁ with heap := g } [.ref a, .ref b] (LO b vb kb :: LO a va ka :: (pre ++ (pl, poolO D k2 t1 nn) :: post))) :
    CompSrc prog w A h₀ L m env elt x scope cl Fin2 (.ref r) s₁ := by
  refine CompSrc.range hh F N hr (by decide) (by rfl) (by rw [PySem.sizeLine_eq]; omega) fun g => compRest_inv (n := 2) (JCut pl D nn k1 k2 k X1 X2 pre post) ?_ ?_ 2 0 [] _ rfl ⟨rfl, t1, rfl⟩
  · intro i ys news v I oI C oC E m₂ h tk E' hi hj _ hoC _ F₁ N₁ o ne
    match i, hi, hj with
    | 0, _, hj =>
      obtain ⟨rfl, t, rfl⟩ := hj
      exact turn0 t I oI C oC E m₂ h tk E' hoC F₁ N₁ o ne (off_pool o hne)
    | 1, _, hj =>
      obtain ⟨a, va, ka, t, rfl, rfl, hap, hva⟩ := hj
      refine turn1 a va ka t I oI C oC E m₂ h tk E' hva hap hoC F₁ N₁ o ne (off_pool (pre := LO a va ka :: pre) o fun p hp => ?_)
      rcases List.mem_cons.mp hp with rfl | hp
      · exact hap
      · exact hne p hp
  · rintro ys news ⟨a, va, ka, b, vb, kb, t, rfl, rfl, hap, hbp, hva, hvb⟩
    refine done g a va ka b vb kb t hva hvb fun p hp => ?_
    rcases List.mem_cons.mp hp with rfl | hp
    · exact hbp
    rcases List.mem_cons.mp hp with rfl | hp
    · exact hap
    · exact hne p hp
theorem end_cut0 {pl D a : Addr} {nn ka : Nat} {k k1 k2 k1' : Int} {X1 X2 X : List Int} {t : Tok} {va : List Value} {pre post news : List (Addr × Obj)} (e : news = LO a va ka :: (pre ++ (pl, poolO D k1' t nn) :: post)) (ek : k1' = k1) (hap : a ≠ pl) (hi : IntsAre va X) (eX : X = X1) :
    JCut pl D nn k1 k2 k X1 X2 pre post 1 [.ref a] news := by
  subst ek eX
  exact ⟨a, va, ka, t, rfl, e, hap, hi⟩
theorem end_cut1 {pl D a b : Addr} {nn ka kb : Nat} {k k1 k2 k2' : Int} {X1 X2 X : List Int} {t : Tok} {va vb : List Value} {pre post news : List (Addr × Obj)} (e : news = LO b vb kb :: LO a va ka :: (pre ++ (pl, poolO D k2' t nn) :: post)) (ek : k2' = k2) (hap : a ≠ pl) (hbp : b ≠ pl) (ha : IntsAre va X1) (hi : IntsAre vb X) (eX : X = X2) :
    JCut pl D nn k1 k2 k X1 X2 pre post 2 [.ref a, .ref b] news := by
  subst ek eX
  exact ⟨a, va, ka, b, vb, kb, t, rfl, e, hap, hbp, ha, hi⟩
end
theorem off1_all {E : Addr} : ∀ {l : List (Addr × Obj)}, PyProof.Rows.LCg.Off1 E l → ∀ p ∈ l, p.1 ≠ E
  | [], _, _, h => nomatch h
  | q :: _, x, p, h => by
    rcases List.mem_cons.mp h with rfl | h
    · exact x.1
    · exact off1_all x.2 p h
theorem draws_len (ns : List Int) (k p : Int) (n : Nat) : (drawsF ns k p n).length = n := by simp [drawsF]
theorem kbound {K : Int} {i n : Nat} (hK : 0 ≤ K ∧ K ≤ 10) (h : i < n) (h4 : n ≤ 4) : 0 ≤ K + (i : Int) ∧ K + (i : Int) ≤ 40 := by omega
theorem field_bounds {l : Nat} (h3 : 3 ≤ l) (h5 : l ≤ 5) : ((l : Int) - 1 - 0).toNat ≤ 4 ∧ ((l : Int) - 1 - 0).toNat ≤ sizeLine ∧ Builtin.Range.small 0 ((l : Int) - 1) 1 = true ∧ (0 ≤ 0 + 1 + 1 + (((l : Int) - 1 - 0).toNat : Int) ∧ 0 + 1 + 1 + (((l : Int) - 1 - 0).toNat : Int) ≤ 10) :=
  ⟨by omega, by rw [PySem.sizeLine_eq]; omega, small_one (by omega) (by omega) (by omega) (by omega), by omega, by omega⟩
theorem take_len (ns : List Int) : (List.map (fun k' => k') (List.take 12 ns)).length ≤ 100 := by
  rw [List.length_map, List.length_take]; omega
open PyProof.Rows.LCg
theorem off3_swap {I C E pl : Addr} {po po' : Obj} {pre post : List (Addr × Obj)} (o : Off3 I C E (pre ++ (pl, po) :: post)) : Off3 I C E (pre ++ (pl, po') :: post) := Off3.of fun p hp => by
  rcases List.mem_append.mp hp with h | h
  · exact o.mem p (List.mem_append_left _ h)
  · rcases List.mem_cons.mp h with rfl | h
    · exact o.mem (pl, po) (List.mem_append_right _ (List.mem_cons_self ..))
    · exact o.mem p (List.mem_append_right _ (List.mem_cons_of_mem _ h))
theorem off3_new {I C E r : Addr} {oI oC oE ro : Obj} {l rest : List (Addr × Obj)} (o : Off3 I C E l) (h : ∀ p ∈ (I, oI) :: (C, oC) :: (E, oE) :: rest, p.1 ≠ r) : Off3 I C E ((r, ro) :: l) :=
  ⟨⟨(h (I, oI) (.head _)).symm, (h (C, oC) (.tail _ (.head _))).symm, (h (E, oE) (.tail _ (.tail _ (.head _)))).symm⟩, o⟩
section
variable {h₀ : Heap} {L I C E : Addr} {m : Str → Option Value} {s₁ : Shared} {oI oC oE : Obj} {h' : Heap} {tk : Nat} {pl D r a : Addr} {nn ka n : Nat} {k k1 k2 : Int} {X1 X2 : List Int} {t : Tok} {va v : List Value} {po : Obj} {pre post : List (Addr × Obj)}
theorem cend_cut0 (F : Fr h₀ L h' m) (N : News h₀ L h' (LO r v n :: (I, oI) :: (C, oC) :: (E, oE) :: (pre ++ (pl, poolO D k1 t nn) :: post))) (o : Off3 I C E (pre ++ (pl, po) :: post))
    (hner : ∀ p ∈ (I, oI) :: (C, oC) :: (E, oE) :: (pre ++ (pl, poolO D k1 t nn) :: post), p.1 ≠ r) (hv : IntsAre v X1) :
    CompEnd h₀ L m s₁ I oI C oC E oE (fun _ => True) (fun y news' => JCut pl D nn k1 k2 k X1 X2 pre post 1 [y] news') (.ref r) { s₁ with heap := h', toks := tk } := by
  refine CompEnd.intro F N (LO r v n :: (pre ++ (pl, poolO D k1 t nn) :: post)) (fun p hp => ?_) (off3_new (off3_swap o) hner) trivial ⟨r, v, n, t, rfl, rfl, ?_, hv⟩
  · simp only [List.mem_cons] at hp ⊢
    rcases hp with h | h | h | h | h <;> simp only [h, true_or, or_true]
  · exact (hner (pl, _) (List.mem_cons_of_mem _ (List.mem_cons_of_mem _ (List.mem_cons_of_mem _ (List.mem_append_right _ (List.mem_cons_self ..)))))).symm
theorem cend_cut1 (F : Fr h₀ L h' m) (N : News h₀ L h' (LO r v n :: (I, oI) :: (C, oC) :: (E, oE) :: LO a va ka :: (pre ++ (pl, poolO D k2 t nn) :: post))) (o : Off3 I C E ((LO a va ka :: pre) ++ (pl, po) :: post))
    (hner : ∀ p ∈ (I, oI) :: (C, oC) :: (E, oE) :: LO a va ka :: (pre ++ (pl, poolO D k2 t nn) :: post), p.1 ≠ r) (hap : a ≠ pl) (hva : IntsAre va X1) (hv : IntsAre v X2) :
    CompEnd h₀ L m s₁ I oI C oC E oE (fun _ => True) (fun y news' => JCut pl D nn k1 k2 k X1 X2 pre post 2 [.ref a, y] news') (.ref r) { s₁ with heap := h', toks := tk } := by
  refine CompEnd.intro F N (LO r v n :: LO a va ka :: (pre ++ (pl, poolO D k2 t nn) :: post)) (fun p hp => ?_) (off3_new (rest := LO a va ka :: (pre ++ (pl, poolO D k2 t nn) :: post)) (oI := oI) (oC := oC) (oE := oE) (off3_swap (pre := LO a va ka :: pre) o) hner) trivial ⟨a, va, ka, r, v, n, t, rfl, rfl, hap, ?_, hva, hv⟩
  · simp only [List.mem_cons] at hp ⊢
    rcases hp with h | h | h | h | h | h <;> simp only [h, true_or, or_true]
  · exact (hner (pl, _) (List.mem_cons_of_mem _ (List.mem_cons_of_mem _ (List.mem_cons_of_mem _ (List.mem_cons_of_mem _ (List.mem_append_right _ (List.mem_cons_self ..))))))).symm
end
theorem news_trim {h₀ h : Heap} {L : Addr} {e1 e2 e3 e4 e5 e6 : Addr × Obj} {r : List (Addr × Obj)} (N : News h₀ L h (e1 :: e2 :: e3 :: e4 :: e5 :: e6 :: r)) : News h₀ L h (e2 :: e3 :: r) := fun p hp => N p (by
  rcases List.mem_cons.mp hp with rfl | hp
  · exact .tail _ (.head _)
  rcases List.mem_cons.mp hp with rfl | hp
  · exact .tail _ (.tail _ (.head _))
  · exact .tail _ (.tail _ (.tail _ (.tail _ (.tail _ (.tail _ hp))))))
-- PureT
structure Row where
  A : List Int
  T : List Int
  N : List Int
  t : List Int
  n : List Int
noncomputable def eqL : List Int → List Int → Bool
  | [], [] => true
  | a :: x, b :: y => decide (a = b) && eqL x y
  | [], _ :: _ => false
  | _ :: _, [] => false
theorem eqL_iff : ∀ {x y : List Int}, eqL x y = true → x = y
  | [], [], _ => rfl
  | a :: x, b :: y, h => by
    rw [eqL, Bool.and_eq_true, decide_eq_true_eq] at h
    rw [h.1, eqL_iff h.2]
  | [], _ :: _, h => nomatch h
  | _ :: _, [], h => nomatch h
noncomputable def allL (p : Nat) : Nat → List (List Int)
  | 0 => [[]]
  | n + 1 => (List.range p).flatMap fun (x : Nat) => (allL p n).map fun r => (x : Int) :: r
theorem mem_allL (p : Nat) : ∀ xs : List Int, (∀ x ∈ xs, 0 ≤ x ∧ x < (p : Int)) → xs ∈ allL p xs.length
  | [], _ => List.mem_singleton.mpr rfl
  | x :: r, h => by
    have hx := h x (List.mem_cons_self ..)
    refine List.mem_flatMap.mpr ⟨x.toNat, List.mem_range.mpr (by omega), List.mem_map.mpr ⟨r, mem_allL p r fun y hy => h y (List.mem_cons_of_mem _ hy), ?_⟩⟩
    rw [Int.toNat_of_nonneg hx.1]
noncomputable def look : List Row → List Int → (Row → Bool) → Bool
  | [], _, _ => false
  | r :: t, x, f => if eqL r.A x then f r else look t x f
theorem look_iff {x : List Int} {f : Row → Bool} : ∀ {t : List Row}, look t x f = true → ∃ r ∈ t, r.A = x ∧ f r = true
  | [], h => nomatch h
  | r :: t, h => by
    unfold look at h
    by_cases e : eqL r.A x = true
    · rw [if_pos e] at h
      exact ⟨r, List.mem_cons_self .., eqL_iff e, h⟩
    · rw [if_neg e] at h
      obtain ⟨s, hs, q⟩ := look_iff h
      exact ⟨s, List.mem_cons_of_mem _ hs, q⟩
noncomputable def eq3 (u : List Int × List Int × List Int) (r : Row) : Bool := eqL u.1 r.T && eqL u.2.1 r.N && eqL u.2.2 r.A
noncomputable def oneB (p Q : Int) (M E : Nat) (ms : List Int) (t : List Row) (r : Row) : Bool :=
  slB r.A && eq3 (dnI Q p ms r.A M) r && eqL (trimF [trF p ms r.A]) r.t && eqL (trimF [noF p ms r.A]) r.n && eqL (powF Q p ms r.T) r.T && eqL (powF Q p ms r.N) r.N && eqL (dnI p p ms r.T E).1 r.t && eqL (dnI p p ms r.N E).2.1 r.n
    && look t (msubF p (powF Q p ms r.A) r.A) (fun s => eqL s.T [])
noncomputable def divB (p Q : Int) (ms : List Int) (t : List Row) (r : Row) : Bool := r.A.isEmpty || (minvOK p ms r.A && look t (gdivF p ms (powF Q p ms r.A) r.A) (fun s => eqL s.N [1]))
noncomputable def norB (p : Int) (ms : List Int) (t : List Row) (r s : Row) : Bool := look t (gfm p ms r.A s.A) (fun u => eqL u.N (gfm p ms r.N s.N))
noncomputable def traB (p : Int) (ms : List Int) (t : List Row) (r s : Row) : Bool := look t (gfm p ms s.T r.A) (fun u => eqL u.T (gfm p ms s.T r.T))
structure Field (p Q : Int) (M E : Nat) (ms : List Int) (t : List Row) : Prop where
  key : ((allL p.toNat (ms.length - 1)).all fun xs => look t (trimF xs) (fun _ => true)) = true
  one : (t.all fun r => oneB p Q M E ms t r) = true
  dv : (t.all fun r => divB p Q ms t r) = true
  nor : (t.all fun r => t.all fun s => norB p ms t r s) = true
  tra : (t.all fun r => t.all fun s => traB p ms t r s) = true
noncomputable def fT0 : List Row := [⟨[], [], [], [], []⟩, ⟨[0, 0, 0, 1], [1, 1, 1], [1], [1], [1]⟩, ⟨[0, 0, 1], [1], [1, 1, 1], [], [1]⟩, ⟨[0, 0, 1, 1], [0, 1, 1], [1], [1], [1]⟩, ⟨[0, 1], [1], [0, 1, 1], [], [1]⟩, ⟨[0, 1, 0, 1], [0, 1, 1], [1], [1], [1]⟩, ⟨[0, 1, 1], [], [1, 1, 1], [], [1]⟩, ⟨[0, 1, 1, 1], [1, 1, 1], [1, 1, 1], [1], [1]⟩, ⟨[1], [], [1], [], [1]⟩, ⟨[1, 0, 0, 1], [1, 1, 1], [1, 1, 1], [1], [1]⟩, ⟨[1, 0, 1], [1], [1, 1, 1], [], [1]⟩, ⟨[1, 0, 1, 1], [0, 1, 1], [0, 1, 1], [1], [1]⟩, ⟨[1, 1], [1], [0, 1, 1], [], [1]⟩, ⟨[1, 1, 0, 1], [0, 1, 1], [0, 1, 1], [1], [1]⟩, ⟨[1, 1, 1], [], [0, 1, 1], [], [1]⟩, ⟨[1, 1, 1, 1], [1, 1, 1], [1], [1], [1]⟩]
noncomputable def fT1 : List Row := [⟨[], [], [], [], []⟩, ⟨[0, 0, 1], [], [1], [], [1]⟩, ⟨[0, 1], [], [1], [], [1]⟩, ⟨[0, 1, 1], [], [1], [], [1]⟩, ⟨[1], [1], [1], [1], [1]⟩, ⟨[1, 0, 1], [1], [1], [1], [1]⟩, ⟨[1, 1], [1], [1], [1], [1]⟩, ⟨[1, 1, 1], [1], [1], [1], [1]⟩]
noncomputable def fT2 : List Row := [⟨[], [], [], [], []⟩, ⟨[0, 0, 0, 1], [1, 1, 0, 1], [1], [1], [1]⟩, ⟨[0, 0, 1], [0, 1, 0, 1], [0, 1, 0, 1], [1], [1]⟩, ⟨[0, 0, 1, 1], [1], [0, 1, 0, 1], [], [1]⟩, ⟨[0, 1], [1, 1, 0, 1], [1, 1, 0, 1], [1], [1]⟩, ⟨[0, 1, 0, 1], [], [1, 1, 0, 1], [], [1]⟩, ⟨[0, 1, 1], [1], [1, 1, 0, 1], [], [1]⟩, ⟨[0, 1, 1, 1], [0, 1, 0, 1], [0, 1, 0, 1], [1], [1]⟩, ⟨[1], [], [1], [], [1]⟩, ⟨[1, 0, 0, 1], [1, 1, 0, 1], [1, 1, 0, 1], [1], [1]⟩, ⟨[1, 0, 1], [0, 1, 0, 1], [1], [1], [1]⟩, ⟨[1, 0, 1, 1], [1], [0, 1, 0, 1], [], [1]⟩, ⟨[1, 1], [1, 1, 0, 1], [1], [1], [1]⟩, ⟨[1, 1, 0, 1], [], [0, 1, 0, 1], [], [1]⟩, ⟨[1, 1, 1], [1], [1, 1, 0, 1], [], [1]⟩, ⟨[1, 1, 1, 1], [0, 1, 0, 1], [1], [1], [1]⟩]
noncomputable def fT3 : List Row := [⟨[], [], [], [], []⟩, ⟨[0, 0, 0, 1], [0, 0, 1, 1], [1], [1], [1]⟩, ⟨[0, 0, 1], [0, 0, 1, 1], [1], [1], [1]⟩, ⟨[0, 0, 1, 1], [], [1, 0, 1, 1], [], [1]⟩, ⟨[0, 1], [1, 0, 1, 1], [1], [1], [1]⟩, ⟨[0, 1, 0, 1], [1], [0, 0, 1, 1], [], [1]⟩, ⟨[0, 1, 1], [1], [1, 0, 1, 1], [], [1]⟩, ⟨[0, 1, 1, 1], [1, 0, 1, 1], [1, 0, 1, 1], [1], [1]⟩, ⟨[1], [], [1], [], [1]⟩, ⟨[1, 0, 0, 1], [0, 0, 1, 1], [0, 0, 1, 1], [1], [1]⟩, ⟨[1, 0, 1], [0, 0, 1, 1], [0, 0, 1, 1], [1], [1]⟩, ⟨[1, 0, 1, 1], [], [0, 0, 1, 1], [], [1]⟩, ⟨[1, 1], [1, 0, 1, 1], [1, 0, 1, 1], [1], [1]⟩, ⟨[1, 1, 0, 1], [1], [0, 0, 1, 1], [], [1]⟩, ⟨[1, 1, 1], [1], [1, 0, 1, 1], [], [1]⟩, ⟨[1, 1, 1, 1], [1, 0, 1, 1], [1], [1], [1]⟩]
noncomputable def fT4 : List Row := [⟨[], [], [], [], []⟩, ⟨[0, 1], [1], [1], [1], [1]⟩, ⟨[1], [], [1], [], [1]⟩, ⟨[1, 1], [1], [1], [1], [1]⟩]
noncomputable def fT5 : List Row := [⟨[], [], [], [], []⟩, ⟨[0, 0, 1], [2], [1], [2], [1]⟩, ⟨[0, 0, 2], [1], [2], [1], [2]⟩, ⟨[0, 1], [], [2], [], [2]⟩, ⟨[0, 1, 1], [2], [1], [2], [1]⟩, ⟨[0, 1, 2], [1], [2], [1], [2]⟩, ⟨[0, 2], [], [1], [], [1]⟩, ⟨[0, 2, 1], [2], [1], [2], [1]⟩, ⟨[0, 2, 2], [1], [2], [1], [2]⟩, ⟨[1], [], [1], [], [1]⟩, ⟨[1, 0, 1], [2], [2], [2], [2]⟩, ⟨[1, 0, 2], [1], [2], [1], [2]⟩, ⟨[1, 1], [], [2], [], [2]⟩, ⟨[1, 1, 1], [2], [1], [2], [1]⟩, ⟨[1, 1, 2], [1], [1], [1], [1]⟩, ⟨[1, 2], [], [1], [], [1]⟩, ⟨[1, 2, 1], [2], [1], [2], [1]⟩, ⟨[1, 2, 2], [1], [1], [1], [1]⟩, ⟨[2], [], [2], [], [2]⟩, ⟨[2, 0, 1], [2], [1], [2], [1]⟩, ⟨[2, 0, 2], [1], [1], [1], [1]⟩, ⟨[2, 1], [], [2], [], [2]⟩, ⟨[2, 1, 1], [2], [2], [2], [2]⟩, ⟨[2, 1, 2], [1], [2], [1], [2]⟩, ⟨[2, 2], [], [1], [], [1]⟩, ⟨[2, 2, 1], [2], [2], [2], [2]⟩, ⟨[2, 2, 2], [1], [2], [1], [2]⟩]
noncomputable def fT6 : List Row := [⟨[], [], [], [], []⟩, ⟨[0, 1], [], [1], [], [1]⟩, ⟨[0, 2], [], [1], [], [1]⟩, ⟨[1], [2], [1], [2], [1]⟩, ⟨[1, 1], [2], [2], [2], [2]⟩, ⟨[1, 2], [2], [2], [2], [2]⟩, ⟨[2], [1], [1], [1], [1]⟩, ⟨[2, 1], [1], [2], [1], [2]⟩, ⟨[2, 2], [1], [2], [1], [2]⟩]
theorem fF0 : Field 2 4 2 2 [1, 1, 0, 0, 1] fT0 := ⟨by decide +kernel, by decide +kernel, by decide +kernel, by decide +kernel, by decide +kernel⟩
theorem fF1 : Field 2 2 3 1 [1, 1, 0, 1] fT1 := ⟨by decide +kernel, by decide +kernel, by decide +kernel, by decide +kernel, by decide +kernel⟩
theorem fF2 : Field 2 4 2 2 [1, 0, 0, 1, 1] fT2 := ⟨by decide +kernel, by decide +kernel, by decide +kernel, by decide +kernel, by decide +kernel⟩
theorem fF3 : Field 2 4 2 2 [1, 1, 1, 1, 1] fT3 := ⟨by decide +kernel, by decide +kernel, by decide +kernel, by decide +kernel, by decide +kernel⟩
theorem fF4 : Field 2 2 2 1 [1, 1, 1] fT4 := ⟨by decide +kernel, by decide +kernel, by decide +kernel, by decide +kernel, by decide +kernel⟩
theorem fF5 : Field 3 3 3 1 [1, 2, 0, 1] fT5 := ⟨by decide +kernel, by decide +kernel, by decide +kernel, by decide +kernel, by decide +kernel⟩
theorem fF6 : Field 3 3 2 1 [1, 0, 1] fT6 := ⟨by decide +kernel, by decide +kernel, by decide +kernel, by decide +kernel, by decide +kernel⟩
-- PureF
/-- all that the law asks, of a and b in a field -/
structure LawFin (p e : Int) (ms A B : List Int) : Prop where
  f : FOK p ms
  a : SL 40 A
  b : SL 40 B
  m1 : 1 ≤ ((ms.length : Int) - 1).fdiv e
  m4 : ((ms.length : Int) - 1).fdiv e ≤ 4
  qq : p ^ e.toNat = 2 ∨ p ^ e.toNat = 3 ∨ p ^ e.toNat = 4
  pq : p = 2 ∨ p = 3 ∨ p = 4
  e1 : 1 ≤ e
  e4 : e ≤ 4
  h1 : (dnI (p ^ e.toNat) p ms A (((ms.length : Int) - 1).fdiv e).toNat).2.2 = A
  h2 : powF (p ^ e.toNat) p ms (dnI (p ^ e.toNat) p ms A (((ms.length : Int) - 1).fdiv e).toNat).1 = (dnI (p ^ e.toNat) p ms A (((ms.length : Int) - 1).fdiv e).toNat).1
  h3 : powF (p ^ e.toNat) p ms (dnI (p ^ e.toNat) p ms A (((ms.length : Int) - 1).fdiv e).toNat).2.1 = (dnI (p ^ e.toNat) p ms A (((ms.length : Int) - 1).fdiv e).toNat).2.1
  h4 : (dnI p p ms (dnI (p ^ e.toNat) p ms A (((ms.length : Int) - 1).fdiv e).toNat).1 e.toNat).1 = trimF [trF p ms A]
  h5 : (dnI p p ms (dnI (p ^ e.toNat) p ms A (((ms.length : Int) - 1).fdiv e).toNat).2.1 e.toNat).2.1 = trimF [noF p ms A]
  g0 : (dnI (p ^ e.toNat) p ms (gfm p ms A B) (((ms.length : Int) - 1).fdiv e).toNat).2.1 = gfm p ms (dnI (p ^ e.toNat) p ms A (((ms.length : Int) - 1).fdiv e).toNat).2.1 (dnI (p ^ e.toNat) p ms B (((ms.length : Int) - 1).fdiv e).toNat).2.1
  g1 : (dnI (p ^ e.toNat) p ms (gfm p ms (dnI (p ^ e.toNat) p ms B (((ms.length : Int) - 1).fdiv e).toNat).1 A) (((ms.length : Int) - 1).fdiv e).toNat).1 = gfm p ms (dnI (p ^ e.toNat) p ms B (((ms.length : Int) - 1).fdiv e).toNat).1 (dnI (p ^ e.toNat) p ms A (((ms.length : Int) - 1).fdiv e).toNat).1
  g2 : (dnI (p ^ e.toNat) p ms (msubF p (powF (p ^ e.toNat) p ms A) A) (((ms.length : Int) - 1).fdiv e).toNat).1 = []
  g3 : A.length ≠ 0 → minvOK p ms A = true ∧ (dnI (p ^ e.toNat) p ms (gdivF p ms (powF (p ^ e.toNat) p ms A) A) (((ms.length : Int) - 1).fdiv e).toNat).2.1 = [1]
theorem lawfin_of {i : Int} (h0 : 0 ≤ i) (h1 : i < 7) {Q : Int} {M E : Nat} {t : List Row} (F : Field (fP i) Q M E (fM i) t) (hQ : fP i ^ (fE i).toNat = Q) (hM : ((((fM i).length : Int) - 1).fdiv (fE i)).toNat = M) (hE : (fE i).toNat = E) {xs ys : List Int}
    (hx : xs ∈ allL (fP i).toNat ((fM i).length - 1)) (hy : ys ∈ allL (fP i).toNat ((fM i).length - 1)) : LawFin (fP i) (fE i) (fM i) (trimF xs) (trimF ys) := by
  obtain ⟨⟨_, _, b1, b2, _, _⟩, ⟨b3, b4⟩, b5, b6⟩ := fB h0 h1
  obtain ⟨r, hr, er, _⟩ := look_iff (List.all_eq_true.mp F.key xs hx)
  obtain ⟨s, hs, es, _⟩ := look_iff (List.all_eq_true.mp F.key ys hy)
  rw [← er, ← es]
  have one : ∀ r ∈ t, slB r.A = true ∧ dnI Q (fP i) (fM i) r.A M = (r.T, r.N, r.A) ∧ trimF [trF (fP i) (fM i) r.A] = r.t ∧ trimF [noF (fP i) (fM i) r.A] = r.n ∧ powF Q (fP i) (fM i) r.T = r.T ∧ powF Q (fP i) (fM i) r.N = r.N ∧ (dnI (fP i) (fP i) (fM i) r.T E).1 = r.t ∧ (dnI (fP i) (fP i) (fM i) r.N E).2.1 = r.n ∧ look t (msubF (fP i) (powF Q (fP i) (fM i) r.A) r.A) (fun s => eqL s.T []) = true := by
    intro r hr
    have h := List.all_eq_true.mp F.one r hr
    unfold oneB eq3 at h
    simp only [Bool.and_eq_true] at h
    obtain ⟨⟨⟨⟨⟨⟨⟨⟨a1, ⟨a2, a3⟩, a4⟩, a5⟩, a6⟩, a7⟩, a8⟩, a9⟩, a10⟩, a11⟩ := h
    refine ⟨a1, ?_, eqL_iff a5, eqL_iff a6, eqL_iff a7, eqL_iff a8, eqL_iff a9, eqL_iff a10, a11⟩
    rw [← eqL_iff a2, ← eqL_iff a3]
    exact congrArg (fun z => ((dnI Q (fP i) (fM i) r.A M).1, (dnI Q (fP i) (fM i) r.A M).2.1, z)) (eqL_iff a4)
  obtain ⟨c1, c2, c3, c4, c5, c6, c7, c8, c9⟩ := one r hr
  obtain ⟨d1, d2, _⟩ := one s hs
  refine ⟨fOK h0 h1, slB_iff c1, slB_iff d1, b3, b4, b5, b6, b1, by omega, ?_, ?_, ?_, ?_, ?_, ?_, ?_, ?_, ?_⟩
  · rw [hQ, hM, c2]
  · rw [hQ, hM, c2, c5]
  · rw [hQ, hM, c2, c6]
  · rw [hQ, hM, hE, c2, c7, c3]
  · rw [hQ, hM, hE, c2, c8, c4]
  · rw [hQ, hM, c2, d2]
    obtain ⟨u, hu, eu, fu⟩ := look_iff (List.all_eq_true.mp (List.all_eq_true.mp F.nor r hr) s hs)
    rw [← eu, (one u hu).2.1]
    exact eqL_iff fu
  · rw [hQ, hM, c2, d2]
    obtain ⟨u, hu, eu, fu⟩ := look_iff (List.all_eq_true.mp (List.all_eq_true.mp F.tra r hr) s hs)
    rw [← eu, (one u hu).2.1]
    exact eqL_iff fu
  · rw [hQ, hM]
    obtain ⟨u, hu, eu, fu⟩ := look_iff c9
    rw [← eu, (one u hu).2.1]
    exact eqL_iff fu
  · intro hne
    have h := List.all_eq_true.mp F.dv r hr
    unfold divB at h
    have he : r.A.isEmpty = false := by
      cases e : r.A with
      | nil => rw [e] at hne; exact absurd rfl hne
      | cons a q => rfl
    rw [he, Bool.false_or, Bool.and_eq_true] at h
    refine ⟨h.1, ?_⟩
    rw [hQ, hM]
    obtain ⟨u, hu, eu, fu⟩ := look_iff h.2
    rw [← eu, (one u hu).2.1]
    exact eqL_iff fu
theorem lawfin_all {i : Int} (h0 : 0 ≤ i) (h1 : i < 7) {xs ys : List Int} (hx : xs ∈ allL (fP i).toNat ((fM i).length - 1)) (hy : ys ∈ allL (fP i).toNat ((fM i).length - 1)) : LawFin (fP i) (fE i) (fM i) (trimF xs) (trimF ys) := by
  rcases seven h0 h1 with rfl | rfl | rfl | rfl | rfl | rfl | rfl
  · exact lawfin_of h0 h1 fF0 rfl rfl rfl hx hy
  · exact lawfin_of h0 h1 fF1 rfl rfl rfl hx hy
  · exact lawfin_of h0 h1 fF2 rfl rfl rfl hx hy
  · exact lawfin_of h0 h1 fF3 rfl rfl rfl hx hy
  · exact lawfin_of h0 h1 fF4 rfl rfl rfl hx hy
  · exact lawfin_of h0 h1 fF5 rfl rfl rfl hx hy
  · exact lawfin_of h0 h1 fF6 rfl rfl rfl hx hy
theorem draws_mem {i : Int} (h0 : 0 ≤ i) (h1 : i < 7) (ns : List Int) (k : Int) : drawsF ns k (fP i) (((fM i).length : Int) - 1 - 0).toNat ∈ allL (fP i).toNat ((fM i).length - 1) := by
  obtain ⟨⟨b1, _⟩, _⟩ := fB h0 h1
  have e : (drawsF ns k (fP i) (((fM i).length : Int) - 1 - 0).toNat).length = (fM i).length - 1 := by
    unfold drawsF
    rw [List.length_map, List.length_range, Int.sub_zero]
    exact Int.toNat_sub _ 1
  rw [← e]
  refine mem_allL _ _ fun x hx => ?_
  rw [Int.toNat_of_nonneg (by omega)]
  obtain ⟨j, _, rfl⟩ := List.mem_map.mp hx
  exact draw_bnd ns _ b1
theorem law_facts {i p e : Int} {ns : List Int} {k1 k2 : Int} {n : Nat} {va vb : List Value} (hi : 0 ≤ i ∧ i < 7) (hp : p = fP i) (he : e = fE i) (hn : n = (((fM i).length : Int) - 1 - 0).toNat) (ha : IntsAre va (trimF (drawsF ns k1 p n))) (hb : IntsAre vb (trimF (drawsF ns k2 p n))) :
    ∃ A B, IntsAre va A ∧ IntsAre vb B ∧ LawFin p e (fM i) A B := by
  subst hp he hn
  exact ⟨_, _, ha, hb, lawfin_all hi.1 hi.2 (draws_mem hi.1 hi.2 ns k1) (draws_mem hi.1 hi.2 ns k2)⟩
theorem law_by {va vb : List Value} {p e : Int} {ms : List Int} {C : Prop} (h : ∃ A B, IntsAre va A ∧ IntsAre vb B ∧ LawFin p e ms A B) (k : ∀ A B, IntsAre va A → IntsAre vb B → LawFin p e ms A B → C) : C := by
  obtain ⟨A, B, a, b, f⟩ := h
  exact k A B a b f
-- Sfr0
theorem roomC {un D c : Nat} (h : un + 8 * D ≤ c + 3) (k : 9 ≤ D) : un + 64 < c := by omega
section
variable {prog : Program} {w : World} {A : Around} {E : Value → Shared → Prop} {s : Shared} {a b : Addr} {vs us : List Value} {ns ms : List Int} {Q : Value → Shared → Prop}
theorem eq_isT (hl : s.heap.IsList a vs.toArray) (hi : IntsAre vs ns) (hl' : s.heap.IsList b us.toArray) (hi' : IntsAre us ms) (hu : A.units + 64 < cLine) (e : ns = ms) (h : Q (.bool true) s) : wpAny (model prog w) A (compareOp .Eq (.ref a) (.ref b)) Q E s :=
  eq_intsK hl hi hl' hi' hu (by rw [decide_eq_true e]; exact h)
theorem ne_isF (hl : s.heap.IsList a vs.toArray) (hi : IntsAre vs ns) (hl' : s.heap.IsList b us.toArray) (hi' : IntsAre us ms) (hu : A.units + 64 < cLine) (e : ns = ms) (h : Q (.bool false) s) : wpAny (model prog w) A (compareOp .NotEq (.ref a) (.ref b)) Q E s :=
  ne_intsK hl hi hl' hi' hu (by rw [decide_eq_true e]; exact h)
theorem ne_isT (hl : s.heap.IsList a vs.toArray) (hi : IntsAre vs ns) (hl' : s.heap.IsList b us.toArray) (hi' : IntsAre us ms) (hu : A.units + 64 < cLine) (e : ns ≠ ms) (h : Q (.bool true) s) : wpAny (model prog w) A (compareOp .NotEq (.ref a) (.ref b)) Q E s :=
  ne_intsK hl hi hl' hi' hu (by rw [decide_eq_false e]; exact h)
end
noncomputable def IsTrue (_g _h' : Heap) (r : Value) : Prop := r = .bool true
theorem fin_true {g h' : Heap} {L' : Addr} {m' : Str → Option Value} {s : Shared} {tk : Nat} (F : Fr g L' h' m') : Fin g s IsTrue (.bool true) ⟨h', s.gens, s.drawn, tk, s.os⟩ := ⟨h', tk, rfl, F.keep, rfl⟩
theorem gfm_SL {p : Int} {ms : List Int} (hf : FOK p ms) (a b : List Int) : SL 40 (gfm p ms a b) := ⟨sm_gfm hf.p2 hf.p3 _ _ _, Nat.le_trans (gfm_length ..) (by have := hf.l5; omega)⟩
theorem pow_SL {p : Int} {ms : List Int} (hf : FOK p ms) (n : Int) (a : List Int) : SL 40 (powF n p ms a) := ⟨sm_pow hf.p2 hf.p3 _ _ _, Nat.le_trans (pow_length ..) (by have := hf.l5; omega)⟩
theorem sub_SL {p : Int} {ms : List Int} (hf : FOK p ms) {a b : List Int} (ha : SL 40 a) (hb : SL 40 b) : SL 40 (msubF p a b) := ⟨sm_madd hf.p2 hf.p3 _ _, Nat.le_trans (msub_length ..) (Nat.max_le.mpr ⟨ha.2, hb.2⟩)⟩
theorem dn_SL {q p : Int} {ms : List Int} (hf : FOK p ms) {a : List Int} (ha : SL 40 a) (n : Nat) : SL 40 (dnI q p ms a n).1 ∧ SL 40 (dnI q p ms a n).2.1 ∧ SL 40 (dnI q p ms a n).2.2 := dn_keeps hf.p2 hf.p3 hf.l5 ha n
set_option maxHeartbeats 8000000 in
theorem spec_fr0 (a b tt pr m : Addr) (many q p : Int) (tf tn tq tp : Tok) (A B T P ms : List Int) (hm1 : 1 ≤ many) (hm4 : many ≤ 4) (hq : q = 2 ∨ q = 3 ∨ q = 4) (hA : SL 40 A) (hB : SL 40 B) (hT : SL 40 T) (hP : SL 40 P) (hf : FOK p ms)
    (he : (dnI q p ms (gfm p ms A B) many.toNat).2.1 = gfm p ms P (dnI q p ms B many.toNat).2.1) : Spec 14 213 [.int 0 tf, .ref a, .ref b, .ref tt, .ref pr, .int many tn, .int q tq, .ref m, .int p tp] (fun h => LI h a A ∧ LI h b B ∧ LI h tt T ∧ LI h pr P ∧ LI h m ms) IsTrue := by
  k_with_none
  w_top off
  refine' spec_of (binds := [(Str.ofString "form", Value.int 0 tf), (Str.ofString "a", Value.ref a), (Str.ofString "b", Value.ref b), (Str.ofString "total", Value.ref tt), (Str.ofString "product", Value.ref pr), (Str.ofString "many", Value.int many tn), (Str.ofString "q", Value.int q tq), (Str.ofString "m", Value.ref m), (Str.ofString "p", Value.int p tp)]) ?ho ?hcd ?hb ?hl ?main ?h1 ?hc ?c1 ?c2 ?c3
  case ho => intro P; rfl
  case hcd => intro P; rfl
  case hb => intro s; exact BindsTo.of_eq rfl
  case hl => exact locs rfl
  case h1 => decide
  case hc => decide
  case c1 => rfl
  case c2 => rfl
  case c3 => rfl
  k_fill
  intro w mean mg mb dp un gd A₀ base g outer L' h₁ s tk hdp hun hpre F N B X T
  obtain ⟨sh, gs, dr, stk, os⟩ := s
  k_with "call ref" => ((with_reducible show wpAny _ _ (call (Value.ref 206) _) _ _ _); (with_unfolding_all refine' use_trip (spec_down _ _ _ _ _ _ _ _ _ _ hm1 hm4 hq ?dnl hf) ?B ?F ?X ?N ?T ?hA ?hf ?hk ?hh ?hd ?hu ?hp ?_); (case B => k_asm); (case F => k_asm); (case X => k_asm); (case N => k_asm); (case T => k_asm); (case hA => with_unfolding_all exact rfl); (case hf => with_unfolding_all exact rfl); (case hk => with_unfolding_all exact rfl); (case hh => with_unfolding_all exact rfl); (case hp => (refine' ⟨LI.of ?l0 ?i0, LI.of ?l1 ?i1⟩; (case l0 => first | is_list | k_dflt is_list); (case i0 => l_ints); (case l1 => first | is_list | k_dflt is_list); (case i1 => l_ints))); (case dnl => with_unfolding_all first | exact hB | exact gfm_SL hf _ _); (case hd => first | exact roomD hdp (by decide) | omega | (dsimp only; omega)); (case hu => first | exact roomU hun (by decide) | omega | (dsimp only; omega)); intro cc ac bc ec vac vbc vec nac nbc nec hc tkc F' N' nec' nea' neb' nee' Ia' Ib' Ie'; clear nec' nea' neb' nee'; (try dsimp only); (try k_sweep))
  k_with "call ref" => ((with_reducible show wpAny _ _ (call (Value.ref 128) _) _ _ _); (with_unfolding_all refine' use_list (spec_gfm _ _ _ _ _ _ _ _ ?gm1 ?gm2 hf) ?B ?F ?X ?N ?T ?hA ?hf ?hk ?hh ?hd ?hu ?hp ?_); (case B => k_asm); (case F => k_asm); (case X => k_asm); (case N => k_asm); (case T => k_asm); (case hA => with_unfolding_all exact rfl); (case hf => with_unfolding_all exact rfl); (case hk => with_unfolding_all exact rfl); (case hh => with_unfolding_all exact rfl); (case hp => (refine' ⟨LI.of ?l0 ?i0, LI.of ?l1 ?i1, LI.of ?l2 ?i2⟩; (case l0 => first | is_list | k_dflt is_list); (case i0 => l_ints); (case l1 => first | is_list | k_dflt is_list); (case i1 => l_ints); (case l2 => first | is_list | k_dflt is_list); (case i2 => l_ints))); (case gm1 => with_unfolding_all first | exact hP | exact hA); (case gm2 => with_unfolding_all first | exact (dn_SL hf hB _).2.1 | exact hB); (case hd => first | exact roomD hdp (by decide) | omega | (dsimp only; omega)); (case hu => first | exact roomU hun (by decide) | omega | (dsimp only; omega)); intro ac vsc nc hc tkc F' N' ne' I'; clear ne'; (try dsimp only); (try k_sweep))
  k_with "compareOp Eq ref ref" => ((with_reducible show wpAny _ _ (compareOp CmpOp.Eq (Value.ref _) (Value.ref _)) _ _ _); k_here; (with_unfolding_all refine' eq_isT ?cm1 ?cm2 ?cm3 ?cm4 ?cm5 ?cm6 ?_); (case cm1 => with_unfolding_all is_list); (case cm2 => l_ints); (case cm3 => with_unfolding_all is_list); (case cm4 => l_ints); (case cm5 => with_unfolding_all exact roomC hun (by decide)); (case cm6 => exact he); (try dsimp only))
  refine li5 hpre fun vs1 hL1 hI1 vs2 hL2 hI2 vs3 hL3 hI3 vs4 hL4 hI4 vs5 hL5 hI5 => ?_
  (try dsimp only)
  (with_reducible show wpAny _ _ _ _ _ _)
  k_fold
  k_steps
  all_goals (try (exact fin_true (by assumption)))
  all_goals trace_state
-- Sfr1
set_option maxHeartbeats 8000000 in
theorem spec_fr1 (a b tt pr m : Addr) (many q p : Int) (tf tn tq tp : Tok) (A B T P ms : List Int) (hm1 : 1 ≤ many) (hm4 : many ≤ 4) (hq : q = 2 ∨ q = 3 ∨ q = 4) (hA : SL 40 A) (hB : SL 40 B) (hT : SL 40 T) (hP : SL 40 P) (hf : FOK p ms)
    (he : (dnI q p ms (gfm p ms (dnI q p ms B many.toNat).1 A) many.toNat).1 = gfm p ms (dnI q p ms B many.toNat).1 T) : Spec 14 213 [.int 1 tf, .ref a, .ref b, .ref tt, .ref pr, .int many tn, .int q tq, .ref m, .int p tp] (fun h => LI h a A ∧ LI h b B ∧ LI h tt T ∧ LI h pr P ∧ LI h m ms) IsTrue := by
  k_with_none
  w_top off
  refine' spec_of (binds := [(Str.ofString "form", Value.int 1 tf), (Str.ofString "a", Value.ref a), (Str.ofString "b", Value.ref b), (Str.ofString "total", Value.ref tt), (Str.ofString "product", Value.ref pr), (Str.ofString "many", Value.int many tn), (Str.ofString "q", Value.int q tq), (Str.ofString "m", Value.ref m), (Str.ofString "p", Value.int p tp)]) ?ho ?hcd ?hb ?hl ?main ?h1 ?hc ?c1 ?c2 ?c3
  case ho => intro P; rfl
  case hcd => intro P; rfl
  case hb => intro s; exact BindsTo.of_eq rfl
  case hl => exact locs rfl
  case h1 => decide
  case hc => decide
  case c1 => rfl
  case c2 => rfl
  case c3 => rfl
  k_fill
  intro w mean mg mb dp un gd A₀ base g outer L' h₁ s tk hdp hun hpre F N B X T
  obtain ⟨sh, gs, dr, stk, os⟩ := s
  k_with "call ref" => ((with_reducible show wpAny _ _ (call (Value.ref 206) _) _ _ _); (with_unfolding_all refine' use_trip (spec_down _ _ _ _ _ _ _ _ _ _ hm1 hm4 hq ?dnl hf) ?B ?F ?X ?N ?T ?hA ?hf ?hk ?hh ?hd ?hu ?hp ?_); (case B => k_asm); (case F => k_asm); (case X => k_asm); (case N => k_asm); (case T => k_asm); (case hA => with_unfolding_all exact rfl); (case hf => with_unfolding_all exact rfl); (case hk => with_unfolding_all exact rfl); (case hh => with_unfolding_all exact rfl); (case hp => (refine' ⟨LI.of ?l0 ?i0, LI.of ?l1 ?i1⟩; (case l0 => first | is_list | k_dflt is_list); (case i0 => l_ints); (case l1 => first | is_list | k_dflt is_list); (case i1 => l_ints))); (case dnl => with_unfolding_all first | exact hB | exact gfm_SL hf _ _); (case hd => first | exact roomD hdp (by decide) | omega | (dsimp only; omega)); (case hu => first | exact roomU hun (by decide) | omega | (dsimp only; omega)); intro cc ac bc ec vac vbc vec nac nbc nec hc tkc F' N' nec' nea' neb' nee' Ia' Ib' Ie'; clear nec' nea' neb' nee'; (try dsimp only); (try k_sweep))
  k_with "call ref" => ((with_reducible show wpAny _ _ (call (Value.ref 128) _) _ _ _); (with_unfolding_all refine' use_list (spec_gfm _ _ _ _ _ _ _ _ ?gm1 ?gm2 hf) ?B ?F ?X ?N ?T ?hA ?hf ?hk ?hh ?hd ?hu ?hp ?_); (case B => k_asm); (case F => k_asm); (case X => k_asm); (case N => k_asm); (case T => k_asm); (case hA => with_unfolding_all exact rfl); (case hf => with_unfolding_all exact rfl); (case hk => with_unfolding_all exact rfl); (case hh => with_unfolding_all exact rfl); (case hp => (refine' ⟨LI.of ?l0 ?i0, LI.of ?l1 ?i1, LI.of ?l2 ?i2⟩; (case l0 => first | is_list | k_dflt is_list); (case i0 => l_ints); (case l1 => first | is_list | k_dflt is_list); (case i1 => l_ints); (case l2 => first | is_list | k_dflt is_list); (case i2 => l_ints))); (case gm1 => with_unfolding_all first | exact (dn_SL hf hB _).1); (case gm2 => with_unfolding_all first | exact hT | exact hA); (case hd => first | exact roomD hdp (by decide) | omega | (dsimp only; omega)); (case hu => first | exact roomU hun (by decide) | omega | (dsimp only; omega)); intro ac vsc nc hc tkc F' N' ne' I'; clear ne'; (try dsimp only); (try k_sweep))
  k_with "compareOp Eq ref ref" => ((with_reducible show wpAny _ _ (compareOp CmpOp.Eq (Value.ref _) (Value.ref _)) _ _ _); k_here; (with_unfolding_all refine' eq_isT ?cm1 ?cm2 ?cm3 ?cm4 ?cm5 ?cm6 ?_); (case cm1 => with_unfolding_all is_list); (case cm2 => l_ints); (case cm3 => with_unfolding_all is_list); (case cm4 => l_ints); (case cm5 => with_unfolding_all exact roomC hun (by decide)); (case cm6 => exact he); (try dsimp only))
  refine li5 hpre fun vs1 hL1 hI1 vs2 hL2 hI2 vs3 hL3 hI3 vs4 hL4 hI4 vs5 hL5 hI5 => ?_
  (try dsimp only)
  (with_reducible show wpAny _ _ _ _ _ _)
  k_fold
  k_steps
  all_goals (try (exact fin_true (by assumption)))
  all_goals trace_state
-- Sfr2
set_option maxHeartbeats 8000000 in
theorem spec_fr2n (a b tt pr m : Addr) (many q p : Int) (tf tn tq tp : Tok) (A B T P ms : List Int) (hm1 : 1 ≤ many) (hm4 : many ≤ 4) (hq : q = 2 ∨ q = 3 ∨ q = 4) (hA : SL 40 A) (hB : SL 40 B) (hT : SL 40 T) (hP : SL 40 P) (hf : FOK p ms)
    (h0 : A = []) (he : (dnI q p ms (msubF p (powF q p ms A) A) many.toNat).1 = []) : Spec 14 213 [.int 2 tf, .ref a, .ref b, .ref tt, .ref pr, .int many tn, .int q tq, .ref m, .int p tp] (fun h => LI h a A ∧ LI h b B ∧ LI h tt T ∧ LI h pr P ∧ LI h m ms) IsTrue := by
  k_with_none
  w_top off
  refine' spec_of (binds := [(Str.ofString "form", Value.int 2 tf), (Str.ofString "a", Value.ref a), (Str.ofString "b", Value.ref b), (Str.ofString "total", Value.ref tt), (Str.ofString "product", Value.ref pr), (Str.ofString "many", Value.int many tn), (Str.ofString "q", Value.int q tq), (Str.ofString "m", Value.ref m), (Str.ofString "p", Value.int p tp)]) ?ho ?hcd ?hb ?hl ?main ?h1 ?hc ?c1 ?c2 ?c3
  case ho => intro P; rfl
  case hcd => intro P; rfl
  case hb => intro s; exact BindsTo.of_eq rfl
  case hl => exact locs rfl
  case h1 => decide
  case hc => decide
  case c1 => rfl
  case c2 => rfl
  case c3 => rfl
  k_fill
  intro w mean mg mb dp un gd A₀ base g outer L' h₁ s tk hdp hun hpre F N B X T
  obtain ⟨sh, gs, dr, stk, os⟩ := s
  k_with "call ref" => ((with_reducible show wpAny _ _ (call (Value.ref 149) _) _ _ _); (with_unfolding_all refine' use_list (spec_pow _ _ _ _ _ _ _ _ hq hA hf) ?B ?F ?X ?N ?T ?hA ?hf ?hk ?hh ?hd ?hu ?hp ?_); (case B => k_asm); (case F => k_asm); (case X => k_asm); (case N => k_asm); (case T => k_asm); (case hA => with_unfolding_all exact rfl); (case hf => with_unfolding_all exact rfl); (case hk => with_unfolding_all exact rfl); (case hh => with_unfolding_all exact rfl); (case hp => (refine' ⟨LI.of ?l0 ?i0, LI.of ?l1 ?i1⟩; (case l0 => first | is_list | k_dflt is_list); (case i0 => l_ints); (case l1 => first | is_list | k_dflt is_list); (case i1 => l_ints))); (case hd => first | exact roomD hdp (by decide) | omega | (dsimp only; omega)); (case hu => first | exact roomU hun (by decide) | omega | (dsimp only; omega)); intro ac vsc nc hc tkc F' N' ne' I'; clear ne'; (try dsimp only); (try k_sweep))
  k_with "call ref" => ((with_reducible show wpAny _ _ (call (Value.ref 81) _) _ _ _); (with_unfolding_all refine' use_list (spec_msub _ _ _ _ _ _ ?ms1 ?ms2 hf.p2 hf.p3) ?B ?F ?X ?N ?T ?hA ?hf ?hk ?hh ?hd ?hu ?hp ?_); (case B => k_asm); (case F => k_asm); (case X => k_asm); (case N => k_asm); (case T => k_asm); (case hA => with_unfolding_all exact rfl); (case hf => with_unfolding_all exact rfl); (case hk => with_unfolding_all exact rfl); (case hh => with_unfolding_all exact rfl); (case hp => (refine' ⟨LI.of ?l0 ?i0, LI.of ?l1 ?i1⟩; (case l0 => first | is_list | k_dflt is_list); (case i0 => l_ints); (case l1 => first | is_list | k_dflt is_list); (case i1 => l_ints))); (case ms1 => with_unfolding_all exact Nat.le_trans (pow_SL hf _ _).2 (by decide)); (case ms2 => with_unfolding_all exact Nat.le_trans hA.2 (by decide)); (case hd => first | exact roomD hdp (by decide) | omega | (dsimp only; omega)); (case hu => first | exact roomU hun (by decide) | omega | (dsimp only; omega)); intro ac vsc nc hc tkc F' N' ne' I'; clear ne'; (try dsimp only); (try k_sweep))
  k_with "call ref" => ((with_reducible show wpAny _ _ (call (Value.ref 206) _) _ _ _); (with_unfolding_all refine' use_trip (spec_down _ _ _ _ _ _ _ _ _ _ hm1 hm4 hq ?dnl hf) ?B ?F ?X ?N ?T ?hA ?hf ?hk ?hh ?hd ?hu ?hp ?_); (case B => k_asm); (case F => k_asm); (case X => k_asm); (case N => k_asm); (case T => k_asm); (case hA => with_unfolding_all exact rfl); (case hf => with_unfolding_all exact rfl); (case hk => with_unfolding_all exact rfl); (case hh => with_unfolding_all exact rfl); (case hp => (refine' ⟨LI.of ?l0 ?i0, LI.of ?l1 ?i1⟩; (case l0 => first | is_list | k_dflt is_list); (case i0 => l_ints); (case l1 => first | is_list | k_dflt is_list); (case i1 => l_ints))); (case dnl => with_unfolding_all first | exact sub_SL hf (pow_SL hf _ _) hA); (case hd => first | exact roomD hdp (by decide) | omega | (dsimp only; omega)); (case hu => first | exact roomU hun (by decide) | omega | (dsimp only; omega)); intro cc ac bc ec vac vbc vec nac nbc nec hc tkc F' N' nec' nea' neb' nee' Ia' Ib' Ie'; clear nec' nea' neb' nee'; (try dsimp only); (try k_sweep))
  k_with "compareOp NotEq ref ref" => ((with_reducible show wpAny _ _ (compareOp CmpOp.NotEq (Value.ref _) (Value.ref _)) _ _ _); k_here; (with_unfolding_all refine' ne_isF ?cm1 ?cm2 ?cm3 ?cm4 ?cm5 ?cm6 ?_); (case cm1 => with_unfolding_all is_list); (case cm2 => l_ints); (case cm3 => with_unfolding_all is_list); (case cm4 => l_ints); (case cm5 => with_unfolding_all exact roomC hun (by decide)); (case cm6 => exact h0); (try dsimp only))
  k_with "compareOp Eq ref ref" => ((with_reducible show wpAny _ _ (compareOp CmpOp.Eq (Value.ref _) (Value.ref _)) _ _ _); k_here; (with_unfolding_all refine' eq_isT ?cm1 ?cm2 ?cm3 ?cm4 ?cm5 ?cm6 ?_); (case cm1 => with_unfolding_all is_list); (case cm2 => l_ints); (case cm3 => with_unfolding_all is_list); (case cm4 => l_ints); (case cm5 => with_unfolding_all exact roomC hun (by decide)); (case cm6 => exact he); (try dsimp only))
  refine li5 hpre fun vs1 hL1 hI1 vs2 hL2 hI2 vs3 hL3 hI3 vs4 hL4 hI4 vs5 hL5 hI5 => ?_
  (try dsimp only)
  (with_reducible show wpAny _ _ _ _ _ _)
  k_fold
  k_steps
  all_goals (try (exact fin_true (by assumption)))
  all_goals trace_state
set_option maxHeartbeats 8000000 in
theorem spec_fr2 (a b tt pr m : Addr) (many q p : Int) (tf tn tq tp : Tok) (A B T P ms : List Int) (hm1 : 1 ≤ many) (hm4 : many ≤ 4) (hq : q = 2 ∨ q = 3 ∨ q = 4) (hA : SL 40 A) (hB : SL 40 B) (hT : SL 40 T) (hP : SL 40 P) (hf : FOK p ms)
    (hne : A.length ≠ 0) (hok : minvOK p ms A = true) (h1 : (dnI q p ms (gdivF p ms (powF q p ms A) A) many.toNat).2.1 = [1]) (he : (dnI q p ms (msubF p (powF q p ms A) A) many.toNat).1 = []) : Spec 16 213 [.int 2 tf, .ref a, .ref b, .ref tt, .ref pr, .int many tn, .int q tq, .ref m, .int p tp] (fun h => LI h a A ∧ LI h b B ∧ LI h tt T ∧ LI h pr P ∧ LI h m ms) IsTrue := by
  k_with_none
  w_top off
  refine' spec_of (binds := [(Str.ofString "form", Value.int 2 tf), (Str.ofString "a", Value.ref a), (Str.ofString "b", Value.ref b), (Str.ofString "total", Value.ref tt), (Str.ofString "product", Value.ref pr), (Str.ofString "many", Value.int many tn), (Str.ofString "q", Value.int q tq), (Str.ofString "m", Value.ref m), (Str.ofString "p", Value.int p tp)]) ?ho ?hcd ?hb ?hl ?main ?h1 ?hc ?c1 ?c2 ?c3
  case ho => intro P; rfl
  case hcd => intro P; rfl
  case hb => intro s; exact BindsTo.of_eq rfl
  case hl => exact locs rfl
  case h1 => decide
  case hc => decide
  case c1 => rfl
  case c2 => rfl
  case c3 => rfl
  k_fill
  intro w mean mg mb dp un gd A₀ base g outer L' h₁ s tk hdp hun hpre F N B X T
  obtain ⟨sh, gs, dr, stk, os⟩ := s
  have h0 : A ≠ [] := fun e => hne (by rw [e]; rfl)
  k_with "call ref" => ((with_reducible show wpAny _ _ (call (Value.ref 149) _) _ _ _); (with_unfolding_all refine' use_list (spec_pow _ _ _ _ _ _ _ _ hq hA hf) ?B ?F ?X ?N ?T ?hA ?hf ?hk ?hh ?hd ?hu ?hp ?_); (case B => k_asm); (case F => k_asm); (case X => k_asm); (case N => k_asm); (case T => k_asm); (case hA => with_unfolding_all exact rfl); (case hf => with_unfolding_all exact rfl); (case hk => with_unfolding_all exact rfl); (case hh => with_unfolding_all exact rfl); (case hp => (refine' ⟨LI.of ?l0 ?i0, LI.of ?l1 ?i1⟩; (case l0 => first | is_list | k_dflt is_list); (case i0 => l_ints); (case l1 => first | is_list | k_dflt is_list); (case i1 => l_ints))); (case hd => first | exact roomD hdp (by decide) | omega | (dsimp only; omega)); (case hu => first | exact roomU hun (by decide) | omega | (dsimp only; omega)); intro ac vsc nc hc tkc F' N' ne' I'; clear ne'; (try dsimp only); (try k_sweep))
  k_with "call ref" => ((with_reducible show wpAny _ _ (call (Value.ref 81) _) _ _ _); (with_unfolding_all refine' use_list (spec_msub _ _ _ _ _ _ ?ms1 ?ms2 hf.p2 hf.p3) ?B ?F ?X ?N ?T ?hA ?hf ?hk ?hh ?hd ?hu ?hp ?_); (case B => k_asm); (case F => k_asm); (case X => k_asm); (case N => k_asm); (case T => k_asm); (case hA => with_unfolding_all exact rfl); (case hf => with_unfolding_all exact rfl); (case hk => with_unfolding_all exact rfl); (case hh => with_unfolding_all exact rfl); (case hp => (refine' ⟨LI.of ?l0 ?i0, LI.of ?l1 ?i1⟩; (case l0 => first | is_list | k_dflt is_list); (case i0 => l_ints); (case l1 => first | is_list | k_dflt is_list); (case i1 => l_ints))); (case ms1 => with_unfolding_all exact Nat.le_trans (pow_SL hf _ _).2 (by decide)); (case ms2 => with_unfolding_all exact Nat.le_trans hA.2 (by decide)); (case hd => first | exact roomD hdp (by decide) | omega | (dsimp only; omega)); (case hu => first | exact roomU hun (by decide) | omega | (dsimp only; omega)); intro ac vsc nc hc tkc F' N' ne' I'; clear ne'; (try dsimp only); (try k_sweep))
  k_with "call ref" => ((with_reducible show wpAny _ _ (call (Value.ref 142) _) _ _ _); (with_unfolding_all refine' use_list (spec_gdiv _ _ _ _ _ _ _ _ (pow_SL hf _ _) hA hf hne hok) ?B ?F ?X ?N ?T ?hA ?hf ?hk ?hh ?hd ?hu ?hp ?_); (case B => k_asm); (case F => k_asm); (case X => k_asm); (case N => k_asm); (case T => k_asm); (case hA => with_unfolding_all exact rfl); (case hf => with_unfolding_all exact rfl); (case hk => with_unfolding_all exact rfl); (case hh => with_unfolding_all exact rfl); (case hp => (refine' ⟨LI.of ?l0 ?i0, LI.of ?l1 ?i1, LI.of ?l2 ?i2⟩; (case l0 => first | is_list | k_dflt is_list); (case i0 => l_ints); (case l1 => first | is_list | k_dflt is_list); (case i1 => l_ints); (case l2 => first | is_list | k_dflt is_list); (case i2 => l_ints))); (case hd => first | exact roomD hdp (by decide) | omega | (dsimp only; omega)); (case hu => first | exact roomU hun (by decide) | omega | (dsimp only; omega)); intro ac vsc nc hc tkc F' N' ne' I'; clear ne'; (try dsimp only); (try k_sweep))
  k_with "call ref" => ((with_reducible show wpAny _ _ (call (Value.ref 206) _) _ _ _); (with_unfolding_all refine' use_trip (spec_down _ _ _ _ _ _ _ _ _ _ hm1 hm4 hq ?dnl hf) ?B ?F ?X ?N ?T ?hA ?hf ?hk ?hh ?hd ?hu ?hp ?_); (case B => k_asm); (case F => k_asm); (case X => k_asm); (case N => k_asm); (case T => k_asm); (case hA => with_unfolding_all exact rfl); (case hf => with_unfolding_all exact rfl); (case hk => with_unfolding_all exact rfl); (case hh => with_unfolding_all exact rfl); (case hp => (refine' ⟨LI.of ?l0 ?i0, LI.of ?l1 ?i1⟩; (case l0 => first | is_list | k_dflt is_list); (case i0 => l_ints); (case l1 => first | is_list | k_dflt is_list); (case i1 => l_ints))); (case dnl => with_unfolding_all first | exact gfm_SL hf _ _ | exact sub_SL hf (pow_SL hf _ _) hA); (case hd => first | exact roomD hdp (by decide) | omega | (dsimp only; omega)); (case hu => first | exact roomU hun (by decide) | omega | (dsimp only; omega)); intro cc ac bc ec vac vbc vec nac nbc nec hc tkc F' N' nec' nea' neb' nee' Ia' Ib' Ie'; clear nec' nea' neb' nee'; (try dsimp only); (try k_sweep))
  k_with "compareOp NotEq ref ref" => ((with_reducible show wpAny _ _ (compareOp CmpOp.NotEq (Value.ref _) (Value.ref _)) _ _ _); k_here; (with_unfolding_all refine' ne_isF ?cm1 ?cm2 ?cm3 ?cm4 ?cm5 ?cm6 ?_); (case cm1 => with_unfolding_all is_list); (case cm2 => l_ints); (case cm3 => with_unfolding_all is_list); (case cm4 => l_ints); (case cm5 => with_unfolding_all exact roomC hun (by decide)); (case cm6 => exact h1); (try dsimp only))
  k_with "compareOp NotEq ref ref" => ((with_reducible show wpAny _ _ (compareOp CmpOp.NotEq (Value.ref _) (Value.ref _)) _ _ _); k_here; (with_unfolding_all refine' ne_isT ?cm1 ?cm2 ?cm3 ?cm4 ?cm5 ?cm6 ?_); (case cm1 => with_unfolding_all is_list); (case cm2 => l_ints); (case cm3 => with_unfolding_all is_list); (case cm4 => l_ints); (case cm5 => with_unfolding_all exact roomC hun (by decide)); (case cm6 => exact h0); (try dsimp only))
  k_with "compareOp Eq ref ref" => ((with_reducible show wpAny _ _ (compareOp CmpOp.Eq (Value.ref _) (Value.ref _)) _ _ _); k_here; (with_unfolding_all refine' eq_isT ?cm1 ?cm2 ?cm3 ?cm4 ?cm5 ?cm6 ?_); (case cm1 => with_unfolding_all is_list); (case cm2 => l_ints); (case cm3 => with_unfolding_all is_list); (case cm4 => l_ints); (case cm5 => with_unfolding_all exact roomC hun (by decide)); (case cm6 => exact he); (try dsimp only))
  refine li5 hpre fun vs1 hL1 hI1 vs2 hL2 hI2 vs3 hL3 hI3 vs4 hL4 hI4 vs5 hL5 hI5 => ?_
  (try dsimp only)
  (with_reducible show wpAny _ _ _ _ _ _)
  k_fold
  k_steps
  all_goals (try (exact fin_true (by assumption)))
  all_goals trace_state
-- Sfr
theorem spec_mono {d d' : Nat} {f : Addr} {vs : List Value} {pre : Heap → Prop} {post : Heap → Heap → Value → Prop} (S : Spec d f vs pre post) (h : d ≤ d') : Spec d' f vs pre post := by
  intro w mean mg mb A s Q E amb hpre ret
  exact S w mean mg mb A s Q E ⟨amb.ex, amb.k, amb.t, amb.hh, by have := amb.dp; omega, by have := amb.un; omega⟩ hpre ret
theorem three {i : Int} (h0 : 0 ≤ i) (h1 : i < 3) : i = 0 ∨ i = 1 ∨ i = 2 := by omega
theorem spec_fr (a b tt pr m : Addr) (form p e : Int) (tf tn tq tp : Tok) (A B ms : List Int) (hf : 0 ≤ form ∧ form < 3) (fin : LawFin p e ms A B) :
    Spec 16 213 [.int form tf, .ref a, .ref b, .ref tt, .ref pr, .int (((ms.length : Int) - 1).fdiv e) tn, .int (p ^ e.toNat) tq, .ref m, .int p tp]
      (fun h => LI h a A ∧ LI h b B ∧ LI h tt (dnI (p ^ e.toNat) p ms A (((ms.length : Int) - 1).fdiv e).toNat).1 ∧ LI h pr (dnI (p ^ e.toNat) p ms A (((ms.length : Int) - 1).fdiv e).toNat).2.1 ∧ LI h m ms) IsTrue := by
  obtain ⟨d1, d2, d3⟩ := dn_SL (q := p ^ e.toNat) fin.f fin.a (((ms.length : Int) - 1).fdiv e).toNat
  rcases three hf.1 hf.2 with rfl | rfl | rfl
  · exact spec_mono (spec_fr0 _ _ _ _ _ _ _ _ _ _ _ _ _ _ _ _ _ fin.m1 fin.m4 fin.qq fin.a fin.b d1 d2 fin.f fin.g0) (by decide)
  · exact spec_mono (spec_fr1 _ _ _ _ _ _ _ _ _ _ _ _ _ _ _ _ _ fin.m1 fin.m4 fin.qq fin.a fin.b d1 d2 fin.f fin.g1) (by decide)
  · by_cases h0 : A.length = 0
    · exact spec_mono (spec_fr2n _ _ _ _ _ _ _ _ _ _ _ _ _ _ _ _ _ fin.m1 fin.m4 fin.qq fin.a fin.b d1 d2 fin.f (List.length_eq_zero_iff.mp h0) fin.g2) (by decide)
    · exact spec_fr2 _ _ _ _ _ _ _ _ _ _ _ _ _ _ _ _ _ fin.m1 fin.m4 fin.qq fin.a fin.b d1 d2 fin.f h0 (fin.g3 h0).1 (fin.g3 h0).2 fin.g2
section
variable {w : World} {mean : ExcName → Option Value} {mg mb : Str → Option Value} {A A₀ : Around} {base h₀ : Heap} {outer : List Env} {L : Addr} {m : Str → Option Value} {env : Env} {s : Shared} {news : List (Addr × Obj)} {d : Nat} {f : Addr} {pre : Heap → Prop} {Q : Value → Shared → Prop} {E : Value → Shared → Prop}
theorem use_true {vs : List Value} (S : Spec d f vs pre IsTrue) (B : Below A₀ base outer h₀) (F : Fr h₀ L s.heap m) (X : (K w.params).In h₀) (N : News h₀ L s.heap news) (T : Top hd.view_39 lse mean mg mb h₀)
    (hA : A.frames = some (env :: outer)) (hf : env.frame = some L) (hk : env.scope.kind = .function) (hh : A.handled = none) (hdp : A.depth + d < recursionLimit) (hun : A.units + 8 * d < cLine) (hp : pre s.heap)
    (ret : ∀ h' tk, Fr h₀ L h' m → News h₀ L h' news → Q (.bool true) { s with heap := h', toks := tk }) :
    wpAny (model PySem.Challenge.rw_sa0088_01.row.prog w) A (call (.ref f) vs) Q E s := by
  refine use_spec S B F X N T hA hf hk hh hdp hun hp fun r h' tk hpost hs F' N' => ?_
  rw [show r = .bool true from hpost]
  exact ret h' tk F' N'
theorem use_cutQ {row : Addr} {xs : List Int} {vs : List Value} {k : Nat} (S : Spec d f [.ref row] pre (CutR row xs)) (B : Below A₀ base outer h₀) (F : Fr h₀ L s.heap m) (X : (K w.params).In h₀) (N : News h₀ L s.heap news) (T : Top hd.view_39 lse mean mg mb h₀)
    (hA : A.frames = some (env :: outer)) (hf : env.frame = some L) (hk : env.scope.kind = .function) (hh : A.handled = none) (hdp : A.depth + d < recursionLimit) (hun : A.units + 8 * d < cLine) (hp : pre s.heap) (hi : IntsAre vs xs) (hm : (row, W.listOf (List.toArray vs) k) ∈ news)
    (ret : ∀ r v n h' tk, Fr h₀ L h' m → News h₀ L h' (LO r v n :: news) → IntsAre v (trimF xs) → Q (.ref r) { s with heap := h', toks := tk }) :
    wpAny (model PySem.Challenge.rw_sa0088_01.row.prog w) A (call (.ref f) [.ref row]) Q E s := by
  refine use_spec S B F X N T hA hf hk hh hdp hun hp fun r h' tk hpost hs F' N' => ?_
  obtain ⟨a, rfl, ⟨rfl, e⟩ | ⟨hn, v, n, ha, hv⟩⟩ := hpost
  · refine ret a vs k h' tk F' (fun p hp => ?_) (e.symm ▸ hi)
    rcases List.mem_cons.mp hp with rfl | hp
    · exact N' _ hm
    · exact N' p hp
  · obtain ⟨a1, a2, a3⟩ := new_facts F N hn
    refine ret a v n h' tk F' (fun p hp => ?_) hv
    rcases List.mem_cons.mp hp with rfl | hp
    · exact ⟨ha, a1, a2⟩
    · exact N' p hp
end
-- Law
set_option maxHeartbeats 8000000 in
theorem law_holds : PySem.Challenge.rw_sa0088_01.Holds := by
  refine Mine.hd ?_
  k_with_none
  k_with "subscriptTail" => ((with_reducible show wpAny _ _ (subscriptTail _ _ (Value.ref 185) (Value.int _ _)) _ _ _); (rename Int => i0); (rename Fr _ _ _ _ => lF'); (with_unfolding_all refine' item_field ?X lF' hbd.1 hbd.2 (fun ft9 ma9 vm9 p9 e9 tp9 te9 hft9 hma9 hvm9 hp9 he9 => ?_) ?hs ?hg); (case X => k_asm); (case hs => with_unfolding_all rfl); (case hg => intro _; with_unfolding_all rfl); (have hi0 := hbd); (try dsimp only))
  k_with "assign Tuple" => ((rename Fr _ _ _ _ => lF'); (rename News _ _ _ _ => lN'); (with_unfolding_all refine' unpackN_ lF' lN' (by first | assumption | with_unfolding_all assumption) ?hh ?hn ?hst ?_); (case hh => with_unfolding_all exact rfl); (case hn => with_unfolding_all exact rfl); (case hst => with_unfolding_all exact rfl); (clear lF' lN'); intro h' F' N'; (try dsimp only); (try k_sweep))
  k_with "call ref" => ((with_reducible show wpAny _ _ (call (Value.ref 192) _) _ _ _); (rename Fr _ _ _ _ => lF'); (rename News _ _ _ _ => lN'); (first
    | (with_unfolding_all refine' use_draw (pre := []) (spec_draw _ _ _ _ _ _ _ _ _ ?k0 ?k40 ?m2 ?m7 ?lns) ?B lF' ?X lN' ?T ?hA ?hf ?hk ?hh ?hd ?hu ?hD ?hi ?ne ?_)
    | (with_unfolding_all refine' use_draw (pre := [_]) (spec_draw _ _ _ _ _ _ _ _ _ ?k0 ?k40 ?m2 ?m7 ?lns) ?B lF' ?X lN' ?T ?hA ?hf ?hk ?hh ?hd ?hu ?hD ?hi ?ne ?_)
    | (with_unfolding_all refine' use_draw (pre := [_, _]) (spec_draw _ _ _ _ _ _ _ _ _ ?k0 ?k40 ?m2 ?m7 ?lns) ?B lF' ?X lN' ?T ?hA ?hf ?hk ?hh ?hd ?hu ?hD ?hi ?ne ?_)
    | (with_unfolding_all refine' use_draw (pre := [_, _, _]) (spec_draw _ _ _ _ _ _ _ _ _ ?k0 ?k40 ?m2 ?m7 ?lns) ?B lF' ?X lN' ?T ?hA ?hf ?hk ?hh ?hd ?hu ?hD ?hi ?ne ?_)
    | (with_unfolding_all refine' use_draw (pre := [_, _, _, _]) (spec_draw _ _ _ _ _ _ _ _ _ ?k0 ?k40 ?m2 ?m7 ?lns) ?B lF' ?X lN' ?T ?hA ?hf ?hk ?hh ?hd ?hu ?hD ?hi ?ne ?_)
    | (with_unfolding_all refine' use_draw (pre := [_, _, _, _, _]) (spec_draw _ _ _ _ _ _ _ _ _ ?k0 ?k40 ?m2 ?m7 ?lns) ?B lF' ?X lN' ?T ?hA ?hf ?hk ?hh ?hd ?hu ?hD ?hi ?ne ?_)
    | (with_unfolding_all refine' use_draw (pre := [_, _, _, _, _, _]) (spec_draw _ _ _ _ _ _ _ _ _ ?k0 ?k40 ?m2 ?m7 ?lns) ?B lF' ?X lN' ?T ?hA ?hf ?hk ?hh ?hd ?hu ?hD ?hi ?ne ?_)
    | (with_unfolding_all refine' use_draw (pre := [_, _, _, _, _, _, _]) (spec_draw _ _ _ _ _ _ _ _ _ ?k0 ?k40 ?m2 ?m7 ?lns) ?B lF' ?X lN' ?T ?hA ?hf ?hk ?hh ?hd ?hu ?hD ?hi ?ne ?_)
    | (with_unfolding_all refine' use_draw (pre := [_, _, _, _, _, _, _, _]) (spec_draw _ _ _ _ _ _ _ _ _ ?k0 ?k40 ?m2 ?m7 ?lns) ?B lF' ?X lN' ?T ?hA ?hf ?hk ?hh ?hd ?hu ?hD ?hi ?ne ?_)
    | (with_unfolding_all refine' use_draw (pre := [_, _, _, _, _, _, _, _, _]) (spec_draw _ _ _ _ _ _ _ _ _ ?k0 ?k40 ?m2 ?m7 ?lns) ?B lF' ?X lN' ?T ?hA ?hf ?hk ?hh ?hd ?hu ?hD ?hi ?ne ?_)); (case B => k_asm); (case X => k_asm); (case T => k_asm); (case hA => with_unfolding_all exact rfl); (case hf => with_unfolding_all exact rfl); (case hk => with_unfolding_all exact rfl); (case hh => with_unfolding_all exact rfl); (case hd => exact law_room (by decide)); (case hu => exact law_units (by decide)); (case hD => with_unfolding_all k_mem); (case hi => l_ints); (case ne => first | exact hne8 | with_unfolding_all exact hne8 | with_unfolding_all exact ne_addr hadr | ((fail_if_success (have hz9 := hi8)); with_unfolding_all k_all)); (case k0 => first | decide | exact (kbound hKa hi8 hn40).1 | exact (kbound hKb hi8 hn40).1); (case k40 => first | decide | exact (kbound hKa hi8 hn40).2 | exact (kbound hKb hi8 hn40).2); (case m2 => first | decide | exact hp29); (case m7 => first | decide | exact hp79); (case lns => exact take_len _); (clear lF' lN'); intro vd td t1d hd9 tkd hvd hadr F' N'; (have hbd := draw_eq hvd (by first | decide | exact hp29)); (try dsimp only); (try k_sweep))
  k_with "CompSrc" => ((with_reducible show PyProof.Rows.LCg.CompSrc _ _ _ _ _ _ _ (Expr.Call (Expr.Name (Str.ofString "_law_draw") _) _ _ _) _ _ _ _ _ _); (rename Fr _ _ _ _ => lF'); (rename News _ _ _ _ => lN'); (rename IsRange _ _ _ _ _ _ _ _ => rgX); (first
    | (with_unfolding_all refine' comp_draws (pre := [_, _, _]) (p := p9) (ns := (List.map (fun k' => k') (List.take 12 ns0))) ?hh lF' lN' (by first | exact rgX | assumption) hsm0 (by first | exact rangeSize_nat _ _ | rfl) ?sz (fun i8 ys8 t18 v8 I8 oI8 C8 oC8 E8 m28 h8 tk8 E'8 hi8 hI8 hoC8 hx8 F8 N8 off8 ne8 => ?_) (fun g8 ys8 t18 hI8 => ?_))
    | (with_unfolding_all refine' comp_draws (pre := [_, _, _, _]) (p := p9) (ns := (List.map (fun k' => k') (List.take 12 ns0))) ?hh lF' lN' (by first | exact rgX | assumption) hsm0 (by first | exact rangeSize_nat _ _ | rfl) ?sz (fun i8 ys8 t18 v8 I8 oI8 C8 oC8 E8 m28 h8 tk8 E'8 hi8 hI8 hoC8 hx8 F8 N8 off8 ne8 => ?_) (fun g8 ys8 t18 hI8 => ?_))); (case hh => with_unfolding_all exact rfl); (case sz => exact hsz0); (all_goals (try clear lF' lN')); (all_goals (try (have offr8 := off8))); (all_goals (try (with_unfolding_all first | (have hne8 := off_pool (oI := oI8) (oC := oC8) (oE := LCg.lst ys8) (pre := [_, _, _]) off8 hneO) | (have hne8 := off_pool (oI := oI8) (oC := oC8) (oE := LCg.lst ys8) (pre := [_, _, _, _]) off8 hneO)))); (all_goals (try simp only [List.nil_append, List.cons_append] at N8 off8 hne8)); (all_goals (try simp only [LCg.Off3, and_true] at off8)); (all_goals (try simp only [List.nil_append, List.cons_append])); (all_goals (try dsimp only)); (all_goals (try k_fold)))
  k_with "JDraw" => (with_unfolding_all refine' end_draw (t1 := _) rfl (by assumption) (by assumption))
  k_with "CompSrc" => ((with_reducible show PyProof.Rows.LCg.CompSrc _ _ _ _ _ _ _ (Expr.Call (Expr.Name (Str.ofString "_law_cut") _) _ _ _) _ _ _ _ _ _); (rename Int => fm0); (rename Fr _ _ _ _ => lF'); (rename News _ _ _ _ => lN'); (rename IsRange _ _ _ _ _ _ _ _ => rgX); (have hfok9 := hp9 ▸ fOK hi0.1 hi0.2); (have hz9 := fB hi0.1 hi0.2); (have hp29 := hz9.1.1); (have hp39 := hz9.1.2.1); (have hl39 := hz9.1.2.2.2.2.1); (have hl59 := hz9.1.2.2.2.2.2); (have he19 := hz9.1.2.2.1); (have he29 := hz9.1.2.2.2.1); (have hmn9 := hz9.2.1); (have hpw9 := hz9.2.2.1); (have hpq9 := hz9.2.2.2); (clear hz9); (rw [← hp9] at hp29 hp39 hpw9 hpq9); (rw [← he9] at he19 he29 hmn9 hpw9); (have hz9 := field_bounds hl39 hl59); (have hn40 := hz9.1); (have hsz0 := hz9.2.1); (have hsm0 := hz9.2.2.1); (have hKb := hz9.2.2.2); (clear hz9); (have hKa : (0 : Int) ≤ 0 + 1 + 1 ∧ (0 : Int) + 1 + 1 ≤ 10 := by decide); (have hp79 : p9 ≤ 7 := Int.le_trans hp39 (by decide)); (with_unfolding_all refine' comp_cuts (pre := []) (k1 := 0 + 1 + 1 + ((((fM i0).length : Int) - 1 - 0).toNat : Int)) (k2 := 0 + 1 + 1 + ((((fM i0).length : Int) - 1 - 0).toNat : Int) + ((((fM i0).length : Int) - 1 - 0).toNat : Int)) (X1 := trimF (drawsF (List.map (fun k' => k') (List.take 12 ns0)) (0 + 1 + 1) p9 (((fM i0).length : Int) - 1 - 0).toNat)) (X2 := trimF (drawsF (List.map (fun k' => k') (List.take 12 ns0)) (0 + 1 + 1 + ((((fM i0).length : Int) - 1 - 0).toNat : Int)) p9 (((fM i0).length : Int) - 1 - 0).toNat)) ?hh lF' lN' (by first | exact rgX | assumption) ?hne (fun t17 I7 oI7 C7 oC7 E7 m27 h7 tk7 E'7 hoC7 F7 N7 off7 ne7 hneO => ?_) (fun a7 va7 ka7 t17 I7 oI7 C7 oC7 E7 m27 h7 tk7 E'7 hva7 hap7 hoC7 F7 N7 off7 ne7 hneO => ?_) (fun g7 a7 va7 ka7 b7 vb7 kb7 t17 hva7 hvb7 hneP => ?_)); (case hh => with_unfolding_all exact rfl); (case hne => first | with_unfolding_all exact ne_addr hadr | with_unfolding_all k_all); (all_goals (try clear lF' lN')); (all_goals (try (have offr7 := off7))); (all_goals (try simp only [List.nil_append, List.cons_append] at N7 off7 hneO)); (all_goals (try simp only [LCg.Off3, and_true] at off7)); (all_goals (try simp only [List.nil_append, List.cons_append])); (all_goals (try dsimp only)); (all_goals (try k_fold)))
  k_with "CompEnd" => ((rename Fr _ _ _ _ => lF'); (rename News _ _ _ _ => lN'); first | (with_unfolding_all refine LCg.CompEnd.intro lF' lN' _ (fun p hp => hp) (off3_swap offr8) trivial ?_) | (with_unfolding_all exact cend_cut0 lF' lN' offr7 hner5 hv5) | (with_unfolding_all exact cend_cut1 lF' lN' offr7 hner5 hap7 hva7 hv5))
  k_with "FinE" => ((unfold LCg.FinE); intro D6 h6 tk6 F' N' o1'; (have hneD6 := off1_all o1'); (try simp only [LCg.Off1, and_true] at o1'); (try simp only [List.nil_append, List.cons_append] at N' hneD6); (try dsimp only))
  k_with "call ref" => ((with_reducible show wpAny _ _ (call (Value.ref 199) _) _ _ _); (rename Fr _ _ _ _ => lF'); (rename News _ _ _ _ => lN'); (with_unfolding_all refine' use_cut (spec_cut _ _ ?cutlen) ?B lF' ?X lN' ?T ?hA ?hf ?hk ?hh ?hd ?hu (LI.of ?cutl ?cuti) ?cuth ?cutne ?_); (case cuth => l_ints); (case cuti => l_ints); (case cutl => first | is_list | with_unfolding_all is_list); (case B => k_asm); (case X => k_asm); (case T => k_asm); (case hA => with_unfolding_all exact rfl); (case hf => with_unfolding_all exact rfl); (case hk => with_unfolding_all exact rfl); (case hh => with_unfolding_all exact rfl); (case hd => exact law_room (by decide)); (case hu => exact law_units (by decide)); (case cutlen => first | (rw [draws_len]; exact Nat.le_trans hn40 (by decide)) | (simp only [List.length_cons, List.length_nil]; omega)); (case cutne => first | exact hneD6 | with_unfolding_all exact hneD6); (clear lF' lN'); intro r5 v5 n5 h5 tk5 F' N' hner5 hv5; (try dsimp only); (try k_sweep))
  k_with "JCut" => (first | (refine end_cut0 (by with_unfolding_all rfl) (by with_unfolding_all rfl) (hner5 (_, _) (by with_unfolding_all k_mem)).symm (by l_ints) (by with_unfolding_all rfl)) | (refine end_cut1 (by with_unfolding_all rfl) (by with_unfolding_all rfl) hap7 (hner5 (_, _) (by with_unfolding_all k_mem)).symm (by assumption) (by l_ints) (by with_unfolding_all rfl)))
  k_with "execs cons" => ((with_reducible show wpAny _ _ (execs (Stmt.Assign [Expr.Tuple [Expr.Name (Str.ofString "many") _, _] _ _] _ _ :: _) _) _ _ _); refine Mine.stopAt ?_)
  k_go0
  rename List Int => ns0
  all_goals (try k_fold)
  k_steps
  all_goals (try k_data)
  refine Mine.stopOff ?_
  clear hneP hneD6 o1'
  k_with_none
  w_top off
  have hfm9 : 0 ≤ fm0 ∧ fm0 < 3 := by assumption
  refine law_by (law_facts hi0 hp9 he9 rfl hva7 hvb7) fun A9 B9 hA9 hB9 fin9 => ?_
  clear hva7 hvb7
  (rename News _ _ _ _ => lN'); (replace lN' := news_trim lN')
  k_with "call ref" => ((with_reducible show wpAny _ _ (call (Value.ref 206) _) _ _ _); (with_unfolding_all refine' use_trip (spec_down _ _ _ _ _ _ _ _ _ _ ?dm1 ?dm4 ?dq ?dnl fin9.f) ?B ?F ?X ?N ?T ?hA ?hf ?hk ?hh ?hd ?hu ?hp ?_); (case B => k_asm); (case F => k_asm); (case X => k_asm); (case N => k_asm); (case T => k_asm); (case hA => with_unfolding_all exact rfl); (case hf => with_unfolding_all exact rfl); (case hk => with_unfolding_all exact rfl); (case hh => with_unfolding_all exact rfl); (case hd => exact law_room (by decide)); (case hu => exact law_units (by decide)); (case hp => (refine' ⟨LI.of ?l0 ?i0, LI.of ?l1 ?i1⟩; (case l0 => first | is_list | k_dflt is_list | with_unfolding_all is_list); (case i0 => l_ints); (case l1 => first | is_list | k_dflt is_list | with_unfolding_all is_list); (case i1 => l_ints))); (case dm1 => with_unfolding_all first | exact fin9.m1 | exact fin9.e1); (case dm4 => with_unfolding_all first | exact fin9.m4 | exact fin9.e4); (case dq => with_unfolding_all first | exact fin9.qq | exact fin9.pq); (case dnl => with_unfolding_all first | exact fin9.a | exact (dn_SL fin9.f fin9.a _).1 | exact (dn_SL fin9.f fin9.a _).2.1); intro cc ac bc ec vac vbc vec nac nbc nec hc tkc F' N' nec' nea' neb' nee' Ia' Ib' Ie'; clear nec' nea' neb' nee'; (try dsimp only); (try k_sweep))
  k_with "call ref" => ((with_reducible show wpAny _ _ (call (Value.ref 149) _) _ _ _); (with_unfolding_all refine' use_list (spec_pow _ _ _ _ _ _ _ _ fin9.qq ?pwl fin9.f) ?B ?F ?X ?N ?T ?hA ?hf ?hk ?hh ?hd ?hu ?hp ?_); (case B => k_asm); (case F => k_asm); (case X => k_asm); (case N => k_asm); (case T => k_asm); (case hA => with_unfolding_all exact rfl); (case hf => with_unfolding_all exact rfl); (case hk => with_unfolding_all exact rfl); (case hh => with_unfolding_all exact rfl); (case hd => exact law_room (by decide)); (case hu => exact law_units (by decide)); (case hp => (refine' ⟨LI.of ?l0 ?i0, LI.of ?l1 ?i1⟩; (case l0 => first | is_list | k_dflt is_list | with_unfolding_all is_list); (case i0 => l_ints); (case l1 => first | is_list | k_dflt is_list | with_unfolding_all is_list); (case i1 => l_ints))); (case pwl => with_unfolding_all first | exact (dn_SL fin9.f fin9.a _).1 | exact (dn_SL fin9.f fin9.a _).2.1); intro ac vsc nc hc tkc F' N' ne' I'; clear ne'; (try dsimp only); (try k_sweep))
  k_with "call ref" => ((with_reducible show wpAny _ _ (call (Value.ref 163) _) _ _ _); (with_unfolding_all refine' use_int (spec_trace _ _ _ _ _ _ fin9.a fin9.f) ?B ?F ?X ?N ?T ?hA ?hf ?hk ?hh ?hd ?hu ?hp ?_); (case B => k_asm); (case F => k_asm); (case X => k_asm); (case N => k_asm); (case T => k_asm); (case hA => with_unfolding_all exact rfl); (case hf => with_unfolding_all exact rfl); (case hk => with_unfolding_all exact rfl); (case hh => with_unfolding_all exact rfl); (case hd => exact law_room (by decide)); (case hu => exact law_units (by decide)); (case hp => (refine' ⟨LI.of ?l0 ?i0, LI.of ?l1 ?i1⟩; (case l0 => first | is_list | k_dflt is_list | with_unfolding_all is_list); (case i0 => l_ints); (case l1 => first | is_list | k_dflt is_list | with_unfolding_all is_list); (case i1 => l_ints))); intro tc hc tkc F' N'; (try dsimp only); (try k_sweep))
  k_with "call ref" => ((with_reducible show wpAny _ _ (call (Value.ref 170) _) _ _ _); (with_unfolding_all refine' use_int (spec_norm _ _ _ _ _ _ fin9.a fin9.f) ?B ?F ?X ?N ?T ?hA ?hf ?hk ?hh ?hd ?hu ?hp ?_); (case B => k_asm); (case F => k_asm); (case X => k_asm); (case N => k_asm); (case T => k_asm); (case hA => with_unfolding_all exact rfl); (case hf => with_unfolding_all exact rfl); (case hk => with_unfolding_all exact rfl); (case hh => with_unfolding_all exact rfl); (case hd => exact law_room (by decide)); (case hu => exact law_units (by decide)); (case hp => (refine' ⟨LI.of ?l0 ?i0, LI.of ?l1 ?i1⟩; (case l0 => first | is_list | k_dflt is_list | with_unfolding_all is_list); (case i0 => l_ints); (case l1 => first | is_list | k_dflt is_list | with_unfolding_all is_list); (case i1 => l_ints))); intro tc hc tkc F' N'; (try dsimp only); (try k_sweep))
  k_with "call ref" => ((with_reducible show wpAny _ _ (call (Value.ref 199) _) _ _ _); (with_unfolding_all refine' use_cutQ (spec_cut _ _ ?cutlen) ?B ?F ?X ?N ?T ?hA ?hf ?hk ?hh ?hd ?hu (LI.of ?cutl ?cuti) ?cuth ?cutm ?_); (case N => k_asm); (case cutm => with_unfolding_all k_mem); (case cuth => l_ints); (case cutl => first | is_list | with_unfolding_all is_list); (case cuti => l_ints); (case B => k_asm); (case F => k_asm); (case X => k_asm); (case T => k_asm); (case hA => with_unfolding_all exact rfl); (case hf => with_unfolding_all exact rfl); (case hk => with_unfolding_all exact rfl); (case hh => with_unfolding_all exact rfl); (case hd => exact law_room (by decide)); (case hu => exact law_units (by decide)); (case cutlen => with_unfolding_all exact Nat.le_of_ble_eq_true rfl); intro r5 v5 n5 h5 tk5 F' N' hv5; (try dsimp only); (try k_sweep))
  k_with "call ref" => ((with_reducible show wpAny _ _ (call (Value.ref 213) _) _ _ _); (with_unfolding_all refine' use_true (spec_fr _ _ _ _ _ _ _ _ _ _ _ _ _ _ _ hfm9 fin9) ?B ?F ?X ?N ?T ?hA ?hf ?hk ?hh ?hd ?hu ?hp ?_); (case B => k_asm); (case F => k_asm); (case X => k_asm); (case N => k_asm); (case T => k_asm); (case hA => with_unfolding_all exact rfl); (case hf => with_unfolding_all exact rfl); (case hk => with_unfolding_all exact rfl); (case hh => with_unfolding_all exact rfl); (case hd => exact law_room (by decide)); (case hu => exact law_units (by decide)); (case hp => (refine' ⟨LI.of ?l0 ?i0, LI.of ?l1 ?i1, LI.of ?l2 ?i2, LI.of ?l3 ?i3, LI.of ?l4 ?i4⟩; (case l0 => first | is_list | k_dflt is_list | with_unfolding_all is_list); (case i0 => l_ints); (case l1 => first | is_list | k_dflt is_list | with_unfolding_all is_list); (case i1 => l_ints); (case l2 => first | is_list | k_dflt is_list | with_unfolding_all is_list); (case i2 => l_ints); (case l3 => first | is_list | k_dflt is_list | with_unfolding_all is_list); (case i3 => l_ints); (case l4 => first | is_list | k_dflt is_list | with_unfolding_all is_list); (case i4 => l_ints))); intro hc tkc F' N'; (try dsimp only); (try k_sweep))
  k_with "compareOp NotEq ref ref" => ((with_reducible show wpAny _ _ (compareOp CmpOp.NotEq (Value.ref _) (Value.ref _)) _ _ _); k_here; (with_unfolding_all refine' ne_isF ?cm1 ?cm2 ?cm3 ?cm4 ?cm5 ?cm6 ?_); (case cm1 => with_unfolding_all is_list); (case cm2 => l_ints); (case cm3 => with_unfolding_all is_list); (case cm4 => l_ints); (case cm5 => with_unfolding_all exact law_units (d := 8) (by decide)); (case cm6 => first | exact fin9.h1 | exact fin9.h2 | exact fin9.h3 | exact fin9.h4 | exact fin9.h5); (try dsimp only))
  (try dsimp only)
  (with_reducible show wpAny _ _ _ _ _ _)
  (try k_fold)
  k_steps
  all_goals trace_state
-- Main
end Mine

theorem PySem.Challenge.cw_sa0088_01_holds : PySem.Challenge.rw_sa0088_01.Holds := by
  exact Mine.law_holds
