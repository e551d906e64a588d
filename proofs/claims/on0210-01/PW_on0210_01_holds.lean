import PyProof.Rows.All
import Wide.All
import OpenK.AllK
import Wide.FinOn
import Lean
import PySem.Challenge.RW_on0210_01
open PySem PySem.W PySem.Calls PyProof.Rows PyProof.V
set_option Elab.async false
namespace Mine
set_option maxRecDepth 100000
set_option maxHeartbeats 8000000
theorem left_boot {p q : Program} {loose : List Str} {Xt : Shared → Bool} {α : Type} {Yf : Shared → α} {Ya : World → α} {N : Nat} {g0 : Bool} (e : opening p = plainProg p.main.scope.names) (hN : Nat.ble 600 N = true) (f : ∀ s, fenceModules? p s = some s)
    (h : ∀ w os, (topFrom treeTable p w N ⟨boot_heap w.params, Array.mk [], boot_drawn, boot_toks, os⟩).map (fun s => (openSeen q loose (importedModules p.main.body) Xt g0 s, Yf s)) = some (openGood q loose, Ya w)) : LeftO p q loose Xt Yf Ya N g0 := fun w => by
  obtain ⟨⟨h0, gs, d, k, os⟩, e1, e'⟩ := Option.map_eq_some_iff.mp (boot_open e hN f w)
  obtain ⟨rfl, rfl, rfl, rfl⟩ : h0 = boot_heap w.params ∧ gs = Array.mk [] ∧ d = boot_drawn ∧ k = boot_toks := by simpa using e'
  unfold openEnds
  rw [e1]
  exact h w os
theorem left_e : opening PySem.Challenge.pw_on0210_01 = plainProg PySem.Challenge.pw_on0210_01.main.scope.names := by kernel_rfl
theorem left_f (s : Shared) : fenceModules? PySem.Challenge.pw_on0210_01 s = some s := by kernel_rfl
/-- what the look at the top is held against -/
def seenV : Program := view PySem.Challenge.pw_on0210_01 [0, 2, 3, 4, 5, 6, 7, 8, 9, 10, 12, 13, 14, 15, 16, 17, 18, 19, 21, 22, 23, 24, 25, 26, 27, 28]
theorem left_law : OpenLaw.wellSaid PySem.Challenge.rw_on0210_01 = true := by
  unfold OpenLaw.wellSaid OpenRow.wellSaid OpenRow.partSaid looksOpen
  repeat' with_reducible refine look_both ?_ ?_
  all_goals decide +kernel
local macro_rules | `(tactic| o_law) => `(tactic| refine holds_law left_law fun said => ?_)
local macro_rules | `(tactic| k_qdec) => `(tactic| decide +kernel)
local macro_rules | `(tactic| o_head $H) => do
  let hw := Lean.mkIdent `hw
  let hc := Lean.mkIdent `hc
  `(tactic| (refine holds_open (q := seenV) (loose := []) (Xt := fun s => xlAt seenV [] s && recOk [] s) (XP := XL seenV []) (Yf := Hook.obs $H) (Ya := Hook.val $H) (YP := Hook.says $H) (N := 2970) (left_boot left_e (by decide) left_f (by intro w os; unfold topFrom; rw [PySem.W.Fast.te14082659384304107361, PySem.W.Fast.te14364793385576792824, PySem.W.Fast.te4187177175401517315]; kernel_rfl)) (Hook.of $H) (Hook.keeps $H) (fun s e => xl_of s (Bool.and_eq_true_iff.mp e).1) XL.keeps (by rfl) (by kernel_rfl) (by rfl) (fun s e => recFacts_of (Bool.and_eq_true_iff.mp e).2) rfl (by first | assumption | decide +kernel) (by decide +kernel) ⟨rfl, rfl, rfl, rfl, rfl, by decide +kernel⟩ ?$hw ?$hc))
open_top hd for PySem.Challenge.rw_on0210_01
end Mine
namespace Mine
set_option maxRecDepth 100000
set_option maxHeartbeats 8000000

abbrev PG : Program := PySem.Challenge.pw_on0210_01
abbrev WP {α : Type} (w : World) (A : Around) (t : Sem α) (Q : α → Shared → Prop) (s : Shared) : Prop := wpAny (model PG w) A t Q (fun _ _ => False) s

/-- what is asked is hidden behind a name -/
def Hid {α : Type} (Q R : α → Shared → Prop) : Prop := ∀ a s, Q a s → R a s
theorem Hid.out {α : Type} {Q R : α → Shared → Prop} {a : α} {s : Shared} (h : Hid Q R) (q : Q a s) : R a s := h a s q
theorem hid {w : World} {A : Around} {α : Type} {t : Sem α} {Q : α → Shared → Prop} {s : Shared} (h : ∀ R : α → Shared → Prop, Hid Q R → WP w A t R s) : WP w A t Q s := h Q fun _ _ x => x
inductive AV where
  | int (i : Int)
  | bool (b : Bool)
  | str (x : Str)
  | none
  | ref (a : Addr)
def AV.is : AV → Value → Prop
  | .int i, v => ∃ t, v = .int i t
  | .bool b, v => v = .bool b
  | .str x, v => ∃ t, v = .str x t
  | .none, v => v = .none
  | .ref a, v => v = .ref a

structure St (z : Shared) (h₀ : Heap) (L : Addr) (l : List (Str × AV)) (cs : List (Addr × Obj)) (s : Shared) : Prop where
  gens : s.gens = z.gens
  os : s.os = z.os
  fr : ∃ m, Fr h₀ L s.heap m ∧ ∀ p ∈ l, ∃ v, m p.1 = some v ∧ p.2.is v
  nl : (l.map (·.1)).Nodup
  news : News h₀ L s.heap cs
  nd : (cs.map (·.1)).Nodup
  low : ∀ c ∈ cs, (∃ es ep, c.2.data = .dict es ep) → sysModules < c.1

structure Cx (w : World) (A : Around) (h₀ : Heap) (L : Addr) (n : Nat) : Prop where
  K : (hd.heap_1 w.params).In h₀
  T : ∃ p loose mg mb, TopRead p loose mg mb h₀
  site : ∃ A₀ base outer env, Below A₀ base outer h₀ ∧ A.frames = some (env :: outer) ∧ env.frame = some L ∧ env.scope.kind = .function
  depth : A.depth + n < 1000
  units : A.units + 20 * n < 9900
  handled : A.handled = none

theorem Cx.nolimit {w A h₀ L n} (C : Cx w A h₀ L n) : h₀.NoLimit := let ⟨_, _, _, _, T⟩ := C.T; T.nolimit
theorem Cx.le {w A h₀ L n k} (C : Cx w A h₀ L n) (h : k ≤ n) : Cx w A h₀ L k := ⟨C.K, C.T, C.site, by have := C.depth; omega, by have := C.units; omega, C.handled⟩

theorem St.lo {z s : Shared} {h₀ : Heap} {L : Addr} {l : List (Str × AV)} {cs : List (Addr × Obj)} (S : St z h₀ L l cs s) : ∀ c ∈ cs, (∃ es ep, c.2.data = .dict es ep) → (c.1 == sysModules) = false := fun c hc hd => beq_eq_false_iff_ne.mpr (Nat.ne_of_gt (S.low c hc hd))
/-- the stack's words -/
theorem Cx.in1 {w A h₀ L n} (C : Cx w A h₀ L (n+1)) : Cx w A.in1 h₀ L n := by
  refine ⟨C.K, C.T, ?_, ?_, ?_, ?_⟩
  · exact C.site
  · have := C.depth; show A.depth + n < 1000; omega
  · have := C.units; show A.units + 1 + 20 * n < 9900; omega
  · exact C.handled

section
variable {w : World} {A : Around} {z s : Shared} {h₀ : Heap} {L a : Addr} {l : List (Str × AV)} {cs : List (Addr × Obj)} {cn : Str} {sc : Scope} {cd : Value} {n : Nat}

theorem St.weaken {l' : List (Str × AV)} {cs' : List (Addr × Obj)} (S : St z h₀ L l cs s) (hl : ∀ p ∈ l', p ∈ l) (hn : (l'.map (·.1)).Nodup) (hc : cs'.Sublist cs) : St z h₀ L l' cs' s where
  gens := S.gens
  os := S.os
  fr := let ⟨m, F, hm⟩ := S.fr; ⟨m, F, fun p hp => hm p (hl p hp)⟩
  nl := hn
  news := fun p hp => S.news p (hc.subset hp)
  nd := (hc.map _).nodup S.nd
  low := fun c hp => S.low c (hc.subset hp)
theorem St.perm {cs' : List (Addr × Obj)} (S : St z h₀ L l cs s) (hc : cs'.Perm cs) : St z h₀ L l cs' s where
  gens := S.gens
  os := S.os
  fr := S.fr
  nl := S.nl
  news := fun p hp => S.news p (hc.subset hp)
  nd := (hc.map _).nodup_iff.mpr S.nd
  low := fun c hp => S.low c (hc.subset hp)

theorem r_loc {x : Str} {pos : Pos} {av : AV} {Q : Value → Shared → Prop} (S : St z h₀ L l cs s) (hm : (x, av) ∈ l) (h : ∀ v, av.is v → Q v s)
    (hk : sc.kind = .function := by rfl) (hx : (envX cn sc L a cd []).kindOf x = some .local := by rfl) (hd : (x == ("__debug__" : Str)) = false := by decide) :
    WP w A (eval (.Name x pos) (envX cn sc L a cd [])) Q s := by
  obtain ⟨m, F, hl⟩ := S.fr
  obtain ⟨v, hv, iv⟩ := hl _ hm
  exact nameX_L F hv (h v iv) hk hx hd
theorem r_loc_int {x : Str} {pos : Pos} {i : Int} {Q : Value → Shared → Prop} (S : St z h₀ L l cs s) (hm : (x, .int i) ∈ l) (h : ∀ t, Q (.int i t) s)
    (hk : sc.kind = .function := by rfl) (hx : (envX cn sc L a cd []).kindOf x = some .local := by rfl) (hd : (x == ("__debug__" : Str)) = false := by decide) :
    WP w A (eval (.Name x pos) (envX cn sc L a cd [])) Q s := r_loc S hm (fun _ ⟨t, e⟩ => e ▸ h t) hk hx hd
theorem r_loc_ref {x : Str} {pos : Pos} {r : Addr} {Q : Value → Shared → Prop} (S : St z h₀ L l cs s) (hm : (x, .ref r) ∈ l) (h : Q (.ref r) s)
    (hk : sc.kind = .function := by rfl) (hx : (envX cn sc L a cd []).kindOf x = some .local := by rfl) (hd : (x == ("__debug__" : Str)) = false := by decide) :
    WP w A (eval (.Name x pos) (envX cn sc L a cd [])) Q s := r_loc S hm (fun _ (e : _ = _) => e ▸ h) hk hx hd

/-- the new list of names -/
inductive Put (x : Str) (v : AV) : List (Str × AV) → List (Str × AV) → Prop
  | nil : Put x v [] [(x, v)]
  | here {u r} : Put x v ((x, u) :: r) ((x, v) :: r)
  | skip {y u r r'} : y ≠ x → Put x v r r' → Put x v ((y, u) :: r) ((y, u) :: r')

theorem Put.keys {x : Str} {v : AV} {l l' : List (Str × AV)} (h : Put x v l l') : ∀ q ∈ l'.map (·.1), q = x ∨ q ∈ l.map (·.1) := by
  induction h with
  | nil => simp
  | here => intro q hq; simpa using hq
  | skip hne _ ih =>
    intro q hq
    simp only [List.map_cons, List.mem_cons] at hq ⊢
    rcases hq with rfl | hq
    · exact .inr (.inl rfl)
    · rcases ih q hq with e | e
      · exact .inl e
      · exact .inr (.inr e)
theorem Put.nodup {x : Str} {v : AV} {l l' : List (Str × AV)} (h : Put x v l l') (hn : (l.map (·.1)).Nodup) : (l'.map (·.1)).Nodup := by
  induction h with
  | nil => simp
  | here => simpa using hn
  | @skip y u r r' hne hp ih =>
    simp only [List.map_cons, List.nodup_cons] at hn ⊢
    exact ⟨fun hm => (hp.keys y hm).elim hne hn.1, ih hn.2⟩
theorem Put.sound {x : Str} {v : AV} {l l' : List (Str × AV)} (h : Put x v l l') (hn : (l.map (·.1)).Nodup) : ∀ p ∈ l', p = (x, v) ∨ (p ∈ l ∧ p.1 ≠ x) := by
  induction h with
  | nil => simp
  | @here u r =>
    simp only [List.map_cons, List.nodup_cons] at hn
    intro p hp
    rcases List.mem_cons.mp hp with rfl | hp
    · exact .inl rfl
    · exact .inr ⟨.tail _ hp, fun e => hn.1 (e ▸ List.mem_map_of_mem hp)⟩
  | @skip y u r r' hne _ ih =>
    simp only [List.map_cons, List.nodup_cons] at hn
    intro p hp
    rcases List.mem_cons.mp hp with rfl | hp
    · exact .inr ⟨.head _, hne⟩
    · rcases ih hn.2 p hp with e | ⟨e, f⟩
      · exact .inl e
      · exact .inr ⟨.tail _ e, f⟩

theorem r_store {x : Str} {v : Value} {av : AV} {l' : List (Str × AV)} {Q : Unit → Shared → Prop} (S : St z h₀ L l cs s) (hv : av.is v) (hp : Put x av l l') (h : ∀ s', St z h₀ L l' cs s' → Q () s')
    (hk : sc.kind = .function := by rfl) (hx : (envX cn sc L a cd []).kindOf x = some .local := by rfl) : WP w A (storeName (envX cn sc L a cd []) x v) Q s := by
  obtain ⟨m, F, hl⟩ := S.fr
  refine storeX_L F S.news (fun h' F' N' => h _ ⟨S.gens, S.os, ⟨_, F', fun p hq => ?_⟩, hp.nodup S.nl, N', S.nd, S.low⟩) hk hx
  rcases hp.sound S.nl p hq with rfl | ⟨e, f⟩
  · exact ⟨v, if_pos rfl, hv⟩
  · obtain ⟨u, hu, iu⟩ := hl p e
    exact ⟨u, by rw [← hu]; exact if_neg f, iu⟩

theorem r_glob {x : Str} {pos : Pos} {v : Value} {k : Nat} {Q : Value → Shared → Prop} (C : Cx w A h₀ L k) (S : St z h₀ L l cs s) (e : nsIn (hd.heap_1 w.params) mainGlobals x = some (some v)) (h : Q v s)
    (hk : sc.kind = .function := by rfl) (hx : (envX cn sc L a cd []).kindOf x = some .globalImplicit := by rfl) (hd : (x == ("__debug__" : Str)) = false := by decide) :
    WP w A (eval (.Name x pos) (envX cn sc L a cd [])) Q s := by
  obtain ⟨m, F, hl⟩ := S.fr
  obtain ⟨_, _, _, _, T⟩ := C.T
  exact nameX_K F C.K T e h hk hx hd
theorem r_builtin {x : Str} {pos : Pos} {v : Value} {k : Nat} {Q : Value → Shared → Prop} (C : Cx w A h₀ L k) (S : St z h₀ L l cs s) (e : nsIn (hd.heap_1 w.params) mainGlobals x = some none) (hv : bootBuiltins x = some v) (hn : x ≠ "__name__") (h : Q v s)
    (hk : sc.kind = .function := by rfl) (hx : (envX cn sc L a cd []).kindOf x = some .globalImplicit := by rfl) (hd : (x == ("__debug__" : Str)) = false := by decide) :
    WP w A (eval (.Name x pos) (envX cn sc L a cd [])) Q s := by
  obtain ⟨m, F, hl⟩ := S.fr
  obtain ⟨_, _, _, _, T⟩ := C.T
  exact nameX_B F C.K T e hv hn h hk hx hd

def AVs : List AV → List Value → Prop
  | [], [] => True
  | a :: r, v :: t => a.is v ∧ AVs r t
  | _, _ => False
theorem binds_keys : ∀ {t : List (Str × AV)} {vs : List Value}, AVs (t.map (·.2)) vs → ((t.map (·.1)).zip vs).map (·.1) = t.map (·.1)
  | [], [], _ => rfl
  | (_, _) :: _, _ :: _, ⟨_, h⟩ => by simp only [List.map_cons, List.zip_cons_cons]; rw [binds_keys h]
theorem binds_mem : ∀ {t : List (Str × AV)} {vs : List Value}, AVs (t.map (·.2)) vs → ∀ p ∈ t, ∃ v, (p.1, v) ∈ (t.map (·.1)).zip vs ∧ p.2.is v
  | [], [], _, _, hp => nomatch hp
  | (x, _) :: _, v :: _, ⟨i, h⟩, p, hp => by
    simp only [List.map_cons, List.zip_cons_cons]
    rcases List.mem_cons.mp hp with rfl | hp
    · exact ⟨v, .head _, i⟩
    · obtain ⟨u, a, b⟩ := binds_mem h p hp; exact ⟨u, .tail _ a, b⟩
theorem lookup_of_mem {b : List (Str × Value)} (hn : (b.map (·.1)).Nodup) {x : Str} {v : Value} (hm : (x, v) ∈ b) : b.lookup x = some v := by
  induction b with
  | nil => cases hm
  | cons p r ih =>
    obtain ⟨y, u⟩ := p
    simp only [List.map_cons, List.nodup_cons] at hn
    rcases List.mem_cons.mp hm with e | hm
    · cases e; simp
    · have hne : x ≠ y := fun e => hn.1 (e ▸ List.mem_map_of_mem (f := (·.1)) hm)
      rw [List.lookup_cons, beq_eq_false_iff_ne.mpr hne]; exact ih hn.2 hm

def RetK (z : Shared) (g : Heap) (L' : Addr) (h₀ : Heap) (L : Addr) (l : List (Str × AV)) (Q : Value → Shared → Prop) (v : Value) (s : Shared) : Prop :=
  ∃ l' cs', St z g L' l' cs' s ∧ ∀ s', St z h₀ L l cs' s' → Q v s'
theorem RetK.intro {g : Heap} {L' : Addr} {l' : List (Str × AV)} {cs' : List (Addr × Obj)} {Q : Value → Shared → Prop} {v : Value} (S : St z g L' l' cs' s) (h : ∀ s', St z h₀ L l cs' s' → Q v s') : RetK z g L' h₀ L l Q v s := ⟨l', cs', S, h⟩

theorem depth_dx (A : Around) (e : Env) : (A.deeper e).depth = A.depth + 1 := rfl
theorem units_dx (A : Around) (e : Env) : (A.deeper e).units = A.units + 3 := rfl

theorem r_code {name qual : Str} {params : Arguments} {body : List Stmt} {scope : Scope} {dV kV doc pm cdv ct oc : Value} {an od : Option Addr} {osl : Array (Option Value)} {f : Addr} {args : List Value} {R : Result → Shared → Prop}
    (lb : List (Str × AV)) (C : Cx w A h₀ L (n + 1)) (S : St z h₀ L l cs s)
    (ho : (hd.heap_1 w.params).lookup f = some ⟨oc, od, .func (fnOf name qual params body scope dV kV doc pm an cdv ct), osl⟩) (hcd : codeIn (hd.heap_1 w.params) cdv qual = true)
    (hbind : bindArgs (fnOf name qual params body scope dV kV doc pm an cdv ct) ⟨args, []⟩ = pure ((lb.map (·.1)).zip args)) (hloc : ∀ y ∈ (lb.map (·.1)).zip args, scope.names.lookup y.1 = some .local)
    (hb : AVs (lb.map (·.2)) args) (hnd : (lb.map (·.1)).Nodup)
    (h : ∀ g L' A' s', Cx w A' g L' n → St z g L' lb cs s' →
      WP w A' (execs body (envX qual scope L' f cdv [])) (fun fl s'' => RetK z g L' h₀ L l (fun v s3 => R (.ok (.ret v)) s3) (match fl with | .ret v => v | _ => .none) s'') s')
    (hcell : ∀ x ∈ scope.names, x.2 ≠ .cell) (hco : scope.isCoroutine = false) (hgen : scope.isGenerator = false) (hk : scope.kind = .function) :
    codeAny (model PG w) A (.call (.ref f) ⟨args, []⟩) R s := by
  obtain ⟨m, F, hl⟩ := S.fr
  obtain ⟨A₀, base, outer, env, B, hA, hf, hke⟩ := C.site
  refine callX_plain (cl := []) B F S.news C.nolimit hA hf hke ((C.K.keeps F.keep) _ _ ho) rfl (codeRec_of (C.K.keeps F.keep) hcd) (by have := C.depth; show A.depth < 1000; omega) (BindsTo.of_eq hbind) hloc ?_ hcell hco hgen hk
  intro g L' h₁ FG F' N' B' st _
  have C' : Cx w (A.deeper (envX qual scope L' f cdv [])) g L' n := by
    refine ⟨C.K.keeps st, ?_, ⟨_, _, _, _, B', Around.frames_deeper B'.stack, rfl, hk⟩, ?_, ?_, ?_⟩
    · obtain ⟨p, lo, mg, mb, T⟩ := C.T; exact ⟨p, lo, mg, mb, T.keeps st⟩
    · rw [depth_dx]; have := C.depth; omega
    · rw [units_dx]; have := C.units; omega
    · exact C.handled
  have S' : St z g L' lb cs { s with heap := h₁, toks := s.toks + ((lb.map (·.1)).zip args).length } := by
    refine ⟨S.gens, S.os, ⟨_, F', fun p hp => ?_⟩, hnd, N', S.nd, S.low⟩
    obtain ⟨v, hv, iv⟩ := binds_mem hb p hp
    refine ⟨v, lookup_of_mem ?_ (List.mem_reverse.mpr hv), iv⟩
    rw [List.map_reverse, (List.reverse_perm _).nodup_iff, binds_keys hb]; exact hnd
  refine wpAny_mono (h g L' _ _ C' S') (fun fl s'' hq => ?_) fun _ _ x => x.elim
  obtain ⟨l'', cs'', S'', k⟩ := hq
  obtain ⟨m'', F'', _⟩ := S''.fr
  exact ⟨L', m'', cs'', F'', S''.news, fun F3 N3 => k _ ⟨S''.gens, S''.os, ⟨m, F3, hl⟩, S.nl, N3, S''.nd, S''.low⟩⟩

theorem r_call {name qual : Str} {params : Arguments} {body : List Stmt} {scope : Scope} {dV kV doc pm cdv ct oc : Value} {an od : Option Addr} {osl : Array (Option Value)} {f : Addr} {args : List Value} {Q : Value → Shared → Prop}
    (lb : List (Str × AV)) (C : Cx w A h₀ L (n + 1)) (S : St z h₀ L l cs s)
    (ho : (hd.heap_1 w.params).lookup f = some ⟨oc, od, .func (fnOf name qual params body scope dV kV doc pm an cdv ct), osl⟩) (hcd : codeIn (hd.heap_1 w.params) cdv qual = true)
    (hbind : bindArgs (fnOf name qual params body scope dV kV doc pm an cdv ct) ⟨args, []⟩ = pure ((lb.map (·.1)).zip args)) (hloc : ∀ y ∈ (lb.map (·.1)).zip args, scope.names.lookup y.1 = some .local)
    (hb : AVs (lb.map (·.2)) args) (hnd : (lb.map (·.1)).Nodup)
    (h : ∀ g L' A' s', Cx w A' g L' n → St z g L' lb cs s' →
      WP w A' (execs body (envX qual scope L' f cdv [])) (fun fl s'' => RetK z g L' h₀ L l Q (match fl with | .ret v => v | _ => .none) s'') s')
    (hcell : ∀ x ∈ scope.names, x.2 ≠ .cell) (hco : scope.isCoroutine = false) (hgen : scope.isGenerator = false) (hk : scope.kind = .function) :
    WP w A (call (.ref f) args []) Q s :=
  wpAny_call (r_code lb C S ho hcd hbind hloc hb hnd h hcell hco hgen hk)
end
end Mine
namespace Mine
set_option linter.unusedSectionVars false
set_option maxRecDepth 100000
set_option maxHeartbeats 8000000

abbrev tupOf (its : Array Value) (n : Nat) : Obj := { cls := .type "tuple", data := .seq its n }
theorem AVs.unc {a : AV} {as : List AV} {vs : List Value} (h : AVs (a :: as) vs) : ∃ v r, vs = v :: r ∧ a.is v ∧ AVs as r := by
  cases vs with
  | nil => exact h.elim
  | cons v r => exact ⟨v, r, rfl, h.1, h.2⟩
theorem AVs.unn {vs : List Value} (h : AVs [] vs) : vs = [] := by
  cases vs with
  | nil => rfl
  | cons v r => exact h.elim
theorem AVs.two {a b : AV} {vs : List Value} (h : AVs [a, b] vs) : ∃ x y, vs = [x, y] ∧ a.is x ∧ b.is y := by
  obtain ⟨x, r, e1, h1, h⟩ := h.unc
  obtain ⟨y, r2, e2, h2, h⟩ := h.unc
  have e3 := h.unn
  subst e3 e2 e1
  exact ⟨x, y, rfl, h1, h2⟩
theorem AVs.pair {a : Addr} {i : Int} {vs : List Value} (h : AVs [.ref a, .int i] vs) : ∃ t, vs = [.ref a, .int i t] := by
  obtain ⟨x, y, e, h1, t, h2⟩ := h.two
  exact ⟨t, by rw [e, h2, show x = Value.ref a from h1]⟩
theorem AVs.four {k : Str} {a b c : Int} {vs : List Value} (h : AVs [.str k, .int a, .int b, .int c] vs) : ∃ t1 t2 t3 t4, vs = [.str k t1, .int a t2, .int b t3, .int c t4] := by
  obtain ⟨x1, r1, e1, ⟨t1, f1⟩, h⟩ := h.unc
  obtain ⟨x2, r2, e2, ⟨t2, f2⟩, h⟩ := h.unc
  obtain ⟨x3, r3, e3, ⟨t3, f3⟩, h⟩ := h.unc
  obtain ⟨x4, r4, e4, ⟨t4, f4⟩, h⟩ := h.unc
  have e5 := h.unn
  subst e5 e4 e3 e2 e1 f1 f2 f3 f4
  exact ⟨t1, t2, t3, t4, rfl⟩
theorem AVs.length : ∀ {as : List AV} {vs : List Value}, AVs as vs → vs.length = as.length
  | [], [], _ => rfl
  | _ :: _, _ :: _, ⟨_, h⟩ => by simp [h.length]
theorem AVs.get : ∀ {as : List AV} {vs : List Value}, AVs as vs → ∀ (i : Nat) (a : AV), as[i]? = some a → ∃ v, vs[i]? = some v ∧ a.is v
  | [], [], _, i, a, h => by simp at h
  | _ :: _, v :: _, ⟨i, h⟩, 0, a, e => by
    simp only [List.getElem?_cons_zero, Option.some.injEq] at e ⊢
    exact ⟨v, rfl, e ▸ i⟩
  | _ :: _, _ :: _, ⟨_, h⟩, k + 1, a, e => by
    simp only [List.getElem?_cons_succ] at e ⊢
    exact h.get k a e
theorem AVs.append : ∀ {as bs : List AV} {vs us : List Value}, AVs as vs → AVs bs us → AVs (as ++ bs) (vs ++ us)
  | [], _, [], _, _, h => h
  | _ :: _, _, _ :: _, _, ⟨i, h⟩, k => ⟨i, h.append k⟩
theorem AVs.ints : ∀ {ns : List Int} {vs : List Value}, AVs (ns.map .int) vs → IntsAre vs ns
  | [], [], _ => .nil
  | n :: _, _ :: _, ⟨⟨t, rfl⟩, h⟩ => .cons n t h.ints
theorem AVs.of_ints : ∀ {ns : List Int} {vs : List Value}, IntsAre vs ns → AVs (ns.map .int) vs
  | _, _, .nil => trivial
  | _, _, .cons n t h => ⟨⟨t, rfl⟩, AVs.of_ints h⟩

/-- a list's, a tuple's items -/
def LI (o : Obj) (xs : List AV) : Prop := ∃ vs n, o = listOf (List.toArray vs) n ∧ AVs xs vs
def TI (o : Obj) (xs : List AV) : Prop := ∃ vs n, o = tupOf (List.toArray vs) n ∧ AVs xs vs

section
variable {K α : Type} [DecidableEq K]
def getK (es : List (K × α)) (k : K) : Option α := (es.find? fun e => e.1 = k).map (·.2)
def setK (es : List (K × α)) (k : K) (v : α) : List (K × α) := if es.any (fun e => e.1 = k) then es.map (fun e => if e.1 = k then (e.1, v) else e) else es ++ [(k, v)]
def delK (es : List (K × α)) (k : K) : List (K × α) := es.filter fun e => decide (e.1 ≠ k)
end
section
variable {K : Type} [DecidableEq K]
def AVk : List (K × AV) → List (K × Value) → Prop
  | [], [] => True
  | (k, a) :: r, (j, v) :: t => k = j ∧ a.is v ∧ AVk r t
  | _, _ => False
theorem AVk.length : ∀ {as : List (K × AV)} {vs : List (K × Value)}, AVk as vs → vs.length = as.length
  | [], [], _ => rfl
  | (_, _) :: _, (_, _) :: _, ⟨_, _, h⟩ => by simp [h.length]
theorem AVk.keys : ∀ {as : List (K × AV)} {vs : List (K × Value)}, AVk as vs → vs.map (·.1) = as.map (·.1)
  | [], [], _ => rfl
  | (_, _) :: _, (_, _) :: _, ⟨rfl, _, h⟩ => by simp [h.keys]
theorem AVk.getElem : ∀ {as : List (K × AV)} {vs : List (K × Value)}, AVk as vs → ∀ (i : Nat) (k : K) (v : Value), vs[i]? = some (k, v) → ∃ a, as[i]? = some (k, a) ∧ a.is v
  | [], [], _, i, k, v, h => by simp at h
  | (_, a) :: _, (_, _) :: _, ⟨rfl, i, h⟩, 0, k, v, e => by
    simp only [List.getElem?_cons_zero, Option.some.injEq, Prod.mk.injEq] at e ⊢
    obtain ⟨rfl, rfl⟩ := e
    exact ⟨a, ⟨rfl, rfl⟩, i⟩
  | (_, _) :: _, (_, _) :: _, ⟨_, _, h⟩, i + 1, k, v, e => by
    simp only [List.getElem?_cons_succ] at e ⊢
    exact h.getElem i k v e
theorem AVk.get : ∀ {as : List (K × AV)} {vs : List (K × Value)}, AVk as vs → ∀ (k : K) (a : AV), getK as k = some a → ∃ v, valueAt vs k = some v ∧ a.is v
  | [], [], _, k, a, h => by simp [getK] at h
  | (j, b) :: r, (_, v) :: t, ⟨rfl, i, h⟩, k, a, e => by
    unfold getK valueAt at *
    simp only [List.find?_cons] at e ⊢
    by_cases hk : j = k
    · simp only [hk, decide_true, Option.map_some, Option.some.injEq] at e ⊢
      exact ⟨v, rfl, e ▸ i⟩
    · simp only [hk, decide_false] at e ⊢
      exact h.get k a e
theorem AVk.isSome : ∀ {as : List (K × AV)} {vs : List (K × Value)}, AVk as vs → ∀ (k : K), (valueAt vs k).isSome = (getK as k).isSome
  | [], [], _, k => rfl
  | (j, b) :: r, (_, v) :: t, ⟨rfl, i, h⟩, k => by
    unfold getK valueAt
    simp only [List.find?_cons]
    by_cases hk : j = k
    · simp [hk]
    · simp only [hk, decide_false]
      exact h.isSome k
theorem AVk.any : ∀ {as : List (K × AV)} {vs : List (K × Value)}, AVk as vs → ∀ (k : K), (vs.any fun kv => kv.1 = k) = (as.any fun e => e.1 = k)
  | [], [], _, k => rfl
  | (_, _) :: _, (_, _) :: _, ⟨rfl, _, h⟩, k => by simp [h.any k]
theorem AVk.mapSet : ∀ {as : List (K × AV)} {vs : List (K × Value)}, AVk as vs → ∀ {k : K} {a : AV} {v : Value}, a.is v → AVk (as.map fun e => if e.1 = k then (e.1, a) else e) (vs.map fun kv => if kv.1 = k then (kv.1, v) else kv)
  | [], [], _, _, _, _, _ => trivial
  | (j, b) :: r, (_, u) :: t, ⟨rfl, i, h⟩, k, a, v, iv => by
    simp only [List.map_cons]
    by_cases hk : j = k
    · simp only [hk, if_true]; exact ⟨rfl, iv, h.mapSet iv⟩
    · simp only [hk, if_false]; exact ⟨rfl, i, h.mapSet iv⟩
theorem AVk.append : ∀ {as bs : List (K × AV)} {vs us : List (K × Value)}, AVk as vs → AVk bs us → AVk (as ++ bs) (vs ++ us)
  | [], _, [], _, _, h => h
  | (_, _) :: _, _, (_, _) :: _, _, ⟨e, i, h⟩, k => ⟨e, i, h.append k⟩
theorem AVk.set {as : List (K × AV)} {vs : List (K × Value)} (h : AVk as vs) {k : K} {a : AV} {v : Value} (iv : a.is v) : AVk (setK as k a) (stored vs k v) := by
  unfold setK stored
  rw [h.any k]
  split
  · exact h.mapSet iv
  · exact h.append ⟨rfl, iv, trivial⟩
theorem AVk.del : ∀ {as : List (K × AV)} {vs : List (K × Value)}, AVk as vs → ∀ (k : K), AVk (delK as k) (without vs k)
  | [], [], _, _ => trivial
  | (j, b) :: r, (_, u) :: t, ⟨rfl, i, h⟩, k => by
    unfold delK without
    simp only [List.filter_cons]
    by_cases hk : j = k
    · simp only [hk, ne_eq, not_true_eq_false, decide_false, Bool.false_eq_true, if_false]; exact h.del k
    · simp only [hk, ne_eq, not_false_eq_true, decide_true, if_true]; exact ⟨rfl, i, h.del k⟩
end

/-- a dict's pairs, by int, by str -/
def DI (w : World) (o : Obj) (es : List (Int × AV)) : Prop := ∃ kvs : List (Int × Value), o.IsDictOf (intKind PG w) kvs ∧ AVk es kvs
def DS (w : World) (o : Obj) (es : List (Str × AV)) : Prop := ∃ kvs : List (Str × Value), o.IsDictOf (strKind PG w) kvs ∧ AVk es kvs
theorem DI.nodup {w o es} (h : DI w o es) : (es.map (·.1)).Nodup := by
  obtain ⟨kvs, ⟨_, _, _, _, _, _, hn⟩, h⟩ := h
  rw [← h.keys]; exact hn

inductive At (d : Addr) (o : Obj) : List (Addr × Obj) → (Obj → List (Addr × Obj)) → Prop
  | head {r} : At d o ((d, o) :: r) (fun o' => (d, o') :: r)
  | tail {p r g} : At d o r g → At d o (p :: r) (fun o' => p :: g o')
  | left {a b g} : At d o a g → At d o (a ++ b) (fun o' => g o' ++ b)
  | right {a b g} : At d o b g → At d o (a ++ b) (fun o' => a ++ g o')
theorem At.split {d : Addr} {o : Obj} {l : List (Addr × Obj)} {g : Obj → List (Addr × Obj)} (h : At d o l g) : ∃ pre post, l = pre ++ (d, o) :: post ∧ ∀ o', g o' = pre ++ (d, o') :: post := by
  induction h with
  | @head r => exact ⟨[], r, rfl, fun _ => rfl⟩
  | @tail p r g _ ih => obtain ⟨pre, post, e, h⟩ := ih; exact ⟨p :: pre, post, by rw [e]; rfl, fun o' => by dsimp only; rw [h]; rfl⟩
  | @left a b g _ ih => obtain ⟨pre, post, e, h⟩ := ih; exact ⟨pre, post ++ b, by rw [e]; simp, fun o' => by dsimp only; rw [h]; simp⟩
  | @right a b g _ ih => obtain ⟨pre, post, e, h⟩ := ih; exact ⟨a ++ pre, post, by rw [e]; simp, fun o' => by dsimp only; rw [h]; simp⟩
theorem At.of_eq {d : Addr} {o : Obj} {l pre post : List (Addr × Obj)} (e : l = pre ++ (d, o) :: post) : At d o l (fun o' => pre ++ (d, o') :: post) := by
  subst e; exact .right .head
theorem At.mem {d : Addr} {o : Obj} {l : List (Addr × Obj)} {g : Obj → List (Addr × Obj)} (h : At d o l g) : (d, o) ∈ l := by
  obtain ⟨pre, post, rfl, _⟩ := h.split; simp

section
variable {w : World} {A : Around} {z s : Shared} {h₀ : Heap} {L : Addr} {l : List (Str × AV)} {cs : List (Addr × Obj)} {n : Nat}

theorem St.toks (S : St z h₀ L l cs s) (k : Nat) : St z h₀ L l cs { s with toks := k } := ⟨S.gens, S.os, S.fr, S.nl, S.news, S.nd, S.low⟩

theorem dat {prog : Program} {w : World} {K : Type} [DecidableEq K] {knd : PySem.KeyKind prog w K} {o : Obj} {kvs : List (K × Value)} (h : o.IsDictOf knd kvs) : ∃ es ep, o.data = .dict es ep := let ⟨es, ep, _, e, _⟩ := h; ⟨es, ep, e⟩
theorem St.update {h' : Heap} {tk : Nat} {d : Addr} {o o' : Obj} {g : Obj → List (Addr × Obj)} (S : St z h₀ L l cs s) (U : At d o cs g) (hs : Heap.SameBut d s.heap h') (ho : h'.get? d = some o') (hlow : (∃ es ep, o'.data = .dict es ep) → ∃ es ep, o.data = .dict es ep) :
    St z h₀ L l (g o') { s with heap := h', toks := tk } := by
  obtain ⟨pre, post, rfl, hg⟩ := U.split
  rw [hg]
  have hm := S.news (d, o) (by simp)
  have nd := S.nd
  simp only [List.map_append, List.map_cons, List.nodup_append, List.nodup_cons, List.mem_map, List.mem_cons] at nd
  obtain ⟨n1, ⟨n2, n3⟩, n4⟩ := nd
  obtain ⟨m, F, hl⟩ := S.fr
  refine ⟨S.gens, S.os, ⟨m, F.change hs hm.2.1 hm.2.2, hl⟩, S.nl, news_set S.news (fun p hp e => ?_) (fun p hp e => ?_) hs ho, ?_, fun c hc => ?_⟩
  · exact n4 p.1 ⟨p, hp, rfl⟩ d (.inl rfl) e
  · exact n2 ⟨p, hp, e⟩
  · have := S.nd; simpa using this
  · simp only [List.mem_append, List.mem_cons] at hc
    rcases hc with hc | rfl | hc
    · exact S.low c (by simp [hc])
    · exact fun h => S.low (d, o) (by simp) (hlow h)
    · exact S.low c (by simp [hc])

theorem St.alloc {h' : Heap} {tk : Nat} {D : Addr} {o : Obj} {k : Nat} (C : Cx w A h₀ L k) (S : St z h₀ L l cs s) (hD : D = s.heap.objs.size) (hk : ∀ b x, s.heap.get? b = some x → h'.get? b = some x) (ho : h'.get? D = some o) :
    St z h₀ L l ((D, o) :: cs) { s with heap := h', toks := tk } := by
  subst hD
  obtain ⟨m, F, hl⟩ := S.fr
  refine ⟨S.gens, S.os, ⟨m, F.keeps hk, hl⟩, S.nl, news_pushed F S.news hk ho rfl, ?_, fun c hc => ?_⟩
  · rw [List.map_cons, List.nodup_cons]
    refine ⟨fun hm => ?_, S.nd⟩
    obtain ⟨p, hp, e⟩ := List.mem_map.mp hm
    exact absurd (Heap.lt_size (S.news p hp).1) (by rw [e]; exact Nat.lt_irrefl _)
  · rcases List.mem_cons.mp hc with rfl | hc
    · exact fun _ => Nat.lt_trans (modules_low C.nolimit) (Nat.lt_of_le_of_lt F.above F.ns.lt)
    · exact S.low c hc
theorem St.keeps {h' : Heap} {tk : Nat} (S : St z h₀ L l cs s) (hk : ∀ b x, s.heap.get? b = some x → h'.get? b = some x) : St z h₀ L l cs { s with heap := h', toks := tk } := by
  obtain ⟨m, F, hl⟩ := S.fr
  exact ⟨S.gens, S.os, ⟨m, F.keeps hk, hl⟩, S.nl, fun p hp => ⟨hk _ _ (S.news p hp).1, (S.news p hp).2⟩, S.nd, S.low⟩

theorem seqIndex_nat {k : Int} {len : Nat} (h0 : 0 ≤ k) (hk : k.toNat < len) : seqIndex? k len = some k.toNat := by
  unfold seqIndex?
  have h1 : ¬ k < 0 := by omega
  have h2 : k < (len : Int) := by omega
  simp [h1, h0, h2]

theorem lt_of_get {α : Type} {l : List α} {i : Nat} {x : α} (e : l[i]? = some x) : i < l.length := by
  rcases Nat.lt_or_ge i l.length with h | h
  · exact h
  · rw [List.getElem?_eq_none h] at e; cases e

theorem r_tup_item {value slice : Expr} {t : Addr} {o : Obj} {k : Int} {u : Tok} {xs : List AV} {av : AV} {Q : Value → Shared → Prop} (S : St z h₀ L l cs s) (hm : (t, o) ∈ cs) (ho : TI o xs)
    (h0 : 0 ≤ k) (hk : k < 100) (hx : xs[k.toNat]? = some av) (h : ∀ v, av.is v → Q v s)
    (hs : subscripted slice false (.ref t) (.int k u) = operate [.ref t, .int k u] (getItem (.ref t) (.int k u)) := by with_unfolding_all rfl) :
    WP w A (subscriptTail value slice (.ref t) (.int k u)) Q s := by
  obtain ⟨vs, ep, rfl, hv⟩ := ho
  obtain ⟨v, e, iv⟩ := hv.get _ _ hx
  exact item_tupleT (l := vs) ⟨_, (S.news _ hm).1, rfl, ep, rfl⟩ (by omega) (by omega) (seqIndex_nat h0 (lt_of_get e)) e (h v iv) hs
theorem r_list_item {value slice : Expr} {t : Addr} {o : Obj} {k : Int} {u : Tok} {xs : List AV} {av : AV} {Q : Value → Shared → Prop} (S : St z h₀ L l cs s) (hm : (t, o) ∈ cs) (ho : LI o xs)
    (h0 : 0 ≤ k) (hk : k < 100000) (hx : xs[k.toNat]? = some av) (h : ∀ v, av.is v → Q v s)
    (hs : subscripted slice false (.ref t) (.int k u) = operate [.ref t, .int k u] (getItem (.ref t) (.int k u)) := by with_unfolding_all rfl) :
    WP w A (subscriptTail value slice (.ref t) (.int k u)) Q s := by
  obtain ⟨vs, ep, rfl, hv⟩ := ho
  obtain ⟨v, e, iv⟩ := hv.get _ _ hx
  have hl : s.heap.IsList t vs.toArray := ⟨_, (S.news _ hm).1, rfl, ep, rfl⟩
  exact tail_any hl.typeIs slot_list_getitem.lookup (wpAny_getItem_list hl h0 (by omega) (by simpa using e) (h v iv)) hs

variable {K : Type} [DecidableEq K] {knd : KeyKind PG w K}
theorem dictOf_of {d : Addr} {o : Obj} {kvs : List (K × Value)} (S : St z h₀ L l cs s) (hm : (d, o) ∈ cs) (ho : o.IsDictOf knd kvs) : s.heap.DictOf knd d kvs := Heap.dictOf_iff.mpr ⟨o, (S.news _ hm).1, ho⟩

theorem r_getitem {d : Addr} {o : Obj} {k : K} {key : Value} {es : List (K × AV)} {av : AV} {Q : Value → Shared → Prop} (S : St z h₀ L l cs s) (hm : (d, o) ∈ cs) (ho : ∃ kvs : List (K × Value), o.IsDictOf knd kvs ∧ AVk es kvs)
    (hkey : knd.is k key = true) (hx : getK es k = some av) (h : ∀ v s', av.is v → St z h₀ L l cs s' → Q v s') : WP w A (getItem (.ref d) key) Q s := by
  obtain ⟨kvs, hd, he⟩ := ho
  obtain ⟨v, e, iv⟩ := he.get _ _ hx
  exact wpAny_getItem_of hkey (dictOf_of S hm hd).mapOf e (h v _ iv (S.toks _))
theorem r_dtail {value slice : Expr} {d : Addr} {o : Obj} {k : K} {key : Value} {es : List (K × AV)} {av : AV} {Q : Value → Shared → Prop} (S : St z h₀ L l cs s) (hm : (d, o) ∈ cs) (ho : ∃ kvs : List (K × Value), o.IsDictOf knd kvs ∧ AVk es kvs)
    (hkey : knd.is k key = true) (hx : getK es k = some av) (h : ∀ v s', av.is v → St z h₀ L l cs s' → Q v s')
    (hs : subscripted slice false (.ref d) key = operate [.ref d, key] (getItem (.ref d) key) := by with_unfolding_all rfl) : WP w A (subscriptTail value slice (.ref d) key) Q s := by
  have h1 := r_getitem (A := A) S hm ho hkey hx h
  obtain ⟨kvs, hd, he⟩ := ho
  exact tail_any (dictOf_of S hm hd).typeIs slot_dict_getitem.lookup h1 hs
theorem r_dict_item {value slice : Expr} {d : Addr} {o : Obj} {k : Int} {u : Tok} {es : List (Int × AV)} {av : AV} {Q : Value → Shared → Prop} (S : St z h₀ L l cs s) (hm : (d, o) ∈ cs) (ho : DI w o es)
    (hx : getK es k = some av) (h : ∀ v s', av.is v → St z h₀ L l cs s' → Q v s')
    (hs : subscripted slice false (.ref d) (.int k u) = operate [.ref d, .int k u] (getItem (.ref d) (.int k u)) := by with_unfolding_all rfl) :
    WP w A (subscriptTail value slice (.ref d) (.int k u)) Q s := r_dtail S hm ho (intKind_is _ _ _ _) hx h hs
theorem r_sdict_item {value slice : Expr} {d : Addr} {o : Obj} {k : Str} {u : Tok} {es : List (Str × AV)} {av : AV} {Q : Value → Shared → Prop} (S : St z h₀ L l cs s) (hm : (d, o) ∈ cs) (ho : DS w o es)
    (hx : getK es k = some av) (h : ∀ v s', av.is v → St z h₀ L l cs s' → Q v s')
    (hs : subscripted slice false (.ref d) (.str k u) = operate [.ref d, .str k u] (getItem (.ref d) (.str k u)) := by with_unfolding_all rfl) :
    WP w A (subscriptTail value slice (.ref d) (.str k u)) Q s := r_dtail S hm ho (strKind_is _ _ _ _) hx h hs

theorem r_dict_in {d : Addr} {o : Obj} {k : Int} {u : Tok} {es : List (Int × AV)} {Q : Value → Shared → Prop} (S : St z h₀ L l cs s) (hm : (d, o) ∈ cs) (ho : DI w o es)
    (h : ∀ s', St z h₀ L l cs s' → Q (.bool (getK es k).isSome) s') : WP w A (compareOp .In (.int k u) (.ref d)) Q s := by
  obtain ⟨kvs, hd, he⟩ := ho
  exact wpAny_in_of (intKind_is _ _ k u) (S.lo _ hm (dat hd)) (dictOf_of S hm hd).mapOf (by rw [he.isSome]; exact h _ (S.toks _))
theorem r_dict_notin {d : Addr} {o : Obj} {k : Int} {u : Tok} {es : List (Int × AV)} {Q : Value → Shared → Prop} (S : St z h₀ L l cs s) (hm : (d, o) ∈ cs) (ho : DI w o es)
    (h : ∀ s', St z h₀ L l cs s' → Q (.bool (!(getK es k).isSome)) s') : WP w A (compareOp .NotIn (.int k u) (.ref d)) Q s := by
  obtain ⟨kvs, hd, he⟩ := ho
  exact wpAny_notIn_of (intKind_is _ _ k u) (S.lo _ hm (dat hd)) (dictOf_of S hm hd).mapOf (by rw [he.isSome]; exact h _ (S.toks _))
theorem r_len_dict {d : Addr} {o : Obj} {es : List (Int × AV)} {Q : Value → Shared → Prop} (S : St z h₀ L l cs s) (hm : (d, o) ∈ cs) (ho : DI w o es) (hn : es.length < 100000)
    (h : ∀ s' t, St z h₀ L l cs s' → Q (.int es.length t) s') : WP w A (call (.builtin "len") [.ref d]) Q s := by
  obtain ⟨kvs, hd, he⟩ := ho
  have e := he.length
  exact call_len_dict (S.lo _ hm (dat hd)) (dictOf_of S hm hd) (by omega) (by rw [e]; exact h _ _ (S.toks _))

theorem r_setitem {d : Addr} {o : Obj} {k : K} {key v : Value} {es : List (K × AV)} {av : AV} {g : Obj → List (Addr × Obj)} {Q : Unit → Shared → Prop} (S : St z h₀ L l cs s) (U : At d o cs g) (ho : ∃ kvs : List (K × Value), o.IsDictOf knd kvs ∧ AVk es kvs)
    (hkey : knd.is k key = true) (hv : av.is v) (hn : es.length < 100000) (h : ∀ o' s', (∃ kvs : List (K × Value), o'.IsDictOf knd kvs ∧ AVk (setK es k av) kvs) → St z h₀ L l (g o') s' → Q () s') :
    WP w A (setItem (.ref d) key v) Q s := by
  obtain ⟨kvs, hd, he⟩ := ho
  have e := he.length
  refine wpAny_setItem_pairs hkey (dictOf_of S U.mem hd) (fun h' hmm hs => ?_) (by rw [sizeLine_eq]; omega)
  obtain ⟨o', ho', hd'⟩ := Heap.dictOf_iff.mp hmm
  exact h o' _ ⟨_, hd', he.set hv⟩ (S.update U hs ho' fun _ => dat hd)
theorem r_dict_set {d : Addr} {o : Obj} {k : Int} {u : Tok} {v : Value} {es : List (Int × AV)} {av : AV} {g : Obj → List (Addr × Obj)} {Q : Unit → Shared → Prop} (S : St z h₀ L l cs s) (U : At d o cs g) (ho : DI w o es)
    (hv : av.is v) (hn : es.length < 100000) (h : ∀ o' s', DI w o' (setK es k av) → St z h₀ L l (g o') s' → Q () s') :
    WP w A (setItem (.ref d) (.int k u) v) Q s := r_setitem S U ho (intKind_is _ _ _ _) hv hn h
theorem r_sdict_set {d : Addr} {o : Obj} {k : Str} {u : Tok} {v : Value} {es : List (Str × AV)} {av : AV} {g : Obj → List (Addr × Obj)} {Q : Unit → Shared → Prop} (S : St z h₀ L l cs s) (U : At d o cs g) (ho : DS w o es)
    (hv : av.is v) (hn : es.length < 100000) (h : ∀ o' s', DS w o' (setK es k av) → St z h₀ L l (g o') s' → Q () s') :
    WP w A (setItem (.ref d) (.str k u) v) Q s := r_setitem S U ho (strKind_is _ _ _ _) hv hn h
theorem r_dict_del {d : Addr} {o : Obj} {k : Int} {u : Tok} {es : List (Int × AV)} {g : Obj → List (Addr × Obj)} {Q : Unit → Shared → Prop} (S : St z h₀ L l cs s) (U : At d o cs g) (ho : DI w o es)
    (hx : (getK es k).isSome = true) (hn : es.length < 100000) (h : ∀ o' s', DI w o' (delK es k) → St z h₀ L l (g o') s' → Q () s') : WP w A (delItem (.ref d) (.int k u)) Q s := by
  obtain ⟨kvs, hd, he⟩ := ho
  have e := he.length
  have hD := dictOf_of S U.mem hd
  unfold delItem
  try with_reducible refine wpAny_holding ?_
  refine wpAny_bind (wpAny_sequenceKey hD.typeIs (by decide) ?_)
  refine wpAny_bind (wpAny_callSpecial?_slot (name := Str.ofString "__delitem__") hD.typeIs PySem.F.slot_dict_delitem
    (call_meetsIn PySem.F.slot_dict_delitem hD.typeIs PySem.F.entry_dict_delitem (PySem.F.args_dict_delitem_2 _ _) (meets_dict_delitem_pairs _ d (intKind_is _ _ k u)) ⟨kvs, hD, (by rw [sizeLine_eq]; omega), by rw [he.isSome]; exact hx, fun h' hmm hs => ?_⟩))
  obtain ⟨o', ho', hd'⟩ := Heap.dictOf_iff.mp hmm
  exact wpAny_pure (h o' _ ⟨_, hd', he.del k⟩ (S.update U hs ho' fun _ => dat hd))

theorem r_newdict {env : Env} {pos : Pos} {k : Nat} {Q : Value → Shared → Prop} (C : Cx w A h₀ L k) (S : St z h₀ L l cs s) (h : ∀ d o s', DI w o [] → St z h₀ L l ((d, o) :: cs) s' → Q (.ref d) s') : WP w A (eval (.Dict [] [] pos) env) Q s := by
  obtain ⟨m, F, hl⟩ := S.fr
  refine Dict_empty_made2 F S.news (modules_low C.nolimit) fun h' o F' N' lo a b c e ap => ?_
  refine h _ o _ ⟨[], c, trivial⟩ ⟨S.gens, S.os, ⟨m, F', hl⟩, S.nl, N', ?_, fun c hc => ?_⟩
  · rw [List.map_cons, List.nodup_cons]
    exact ⟨fun hm => by obtain ⟨p, hp, e⟩ := List.mem_map.mp hm; exact ap p hp e, S.nd⟩
  · rcases List.mem_cons.mp hc with rfl | hc
    · exact fun _ => Nat.lt_trans (modules_low C.nolimit) (Nat.lt_of_le_of_lt F.above F.ns.lt)
    · exact S.low c hc
theorem r_newlist {k : Nat} {vs : List Value} {xs : List AV} {Q : Value → Shared → Prop} (C : Cx w A h₀ L k) (S : St z h₀ L l cs s) (hv : AVs xs vs) (hn : xs.length < 100000) (h : ∀ d o s', LI o xs → St z h₀ L l ((d, o) :: cs) s' → Q (.ref d) s') : WP w A (newList vs) Q s := by
  have e := hv.length
  refine wpAny_newObj_type (h _ _ _ ⟨vs, 0, rfl, hv⟩ (S.alloc C rfl (fun b x q => Heap.get?_push_of_some _ q) (Heap.get?_push_size _ rfl))) ?_
  show vs.toArray.size ≤ sizeLine
  rw [List.size_toArray, sizeLine_eq]; omega
theorem r_newtup {k : Nat} {vs : List Value} {xs : List AV} {Q : Value → Shared → Prop} (C : Cx w A h₀ L k) (S : St z h₀ L l cs s) (hv : AVs xs vs) (hn : xs.length < 100000) (h : ∀ d o s', TI o xs → St z h₀ L l ((d, o) :: cs) s' → Q (.ref d) s') : WP w A (newTuple vs) Q s := by
  have e := hv.length
  refine wpAny_newObj_type (h _ _ _ ⟨vs, 0, rfl, hv⟩ (S.alloc C rfl (fun b x q => Heap.get?_push_of_some _ q) (Heap.get?_push_size _ rfl))) ?_
  show vs.toArray.size ≤ sizeLine
  rw [List.size_toArray, sizeLine_eq]; omega
theorem r_append {d : Addr} {o : Obj} {x : Value} {xs : List AV} {av : AV} {g : Obj → List (Addr × Obj)} {Q : Value → Shared → Prop} (S : St z h₀ L l cs s) (U : At d o cs g) (ho : LI o xs) (hv : av.is x) (hn : xs.length < 100000)
    (h : ∀ o' s', LI o' (xs ++ [av]) → St z h₀ L l (g o') s' → Q .none s') : WP w A (call (.builtin "list.append") [.ref d, x]) Q s := by
  obtain ⟨vs, ep, rfl, hvs⟩ := ho
  have e := hvs.length
  refine append_at (S.news _ U.mem).1 (fun h' hs ho' => h _ _ ⟨vs ++ [x], ep + 1, by simp, hvs.append ⟨hv, trivial⟩⟩ (S.update U hs ho' fun ⟨_, _, e⟩ => nomatch e)) ?_
  rw [List.size_toArray, sizeLine_eq]; omega
theorem r_list_in {d : Addr} {o : Obj} {k : Int} {u : Tok} {ns : List Int} {Q : Value → Shared → Prop} (S : St z h₀ L l cs s) (hm : (d, o) ∈ cs) (ho : LI o (ns.map .int))
    (h : Q (.bool (ns.any (· == k))) s) : WP w A (compareOp .In (.int k u) (.ref d)) Q s := by
  obtain ⟨vs, ep, rfl, hv⟩ := ho
  exact in_list_ints ⟨_, (S.news _ hm).1, rfl, ep, rfl⟩ hv.ints h
end
end Mine
namespace Mine
set_option linter.unusedSectionVars false
set_option maxRecDepth 100000
set_option maxHeartbeats 8000000
section
variable {w : World} {A : Around} {z s : Shared} {h₀ : Heap} {L : Addr} {l : List (Str × AV)} {cs : List (Addr × Obj)} {env : Env} {Q : Value → Shared → Prop} {a b : Int} {t u : Tok}

theorem r_const_int {i : Int} {k : Nat} {pos : Pos} (S : St z h₀ L l cs s) (h : ∀ t s', St z h₀ L l cs s' → Q (.int i t) s') : WP w A (eval (.Constant (.int i) k pos) env) Q s :=
  wpAny_Constant_int (h _ _ (S.toks _))
theorem r_const_str {x : Str} {k : Nat} {pos : Pos} (S : St z h₀ L l cs s) (h : ∀ t s', St z h₀ L l cs s' → Q (.str x t) s') : WP w A (eval (.Constant (.str x) k pos) env) Q s :=
  Calls.Constant_str (h _ _ (S.toks _))
theorem r_const_bool {x : Bool} {k : Nat} {pos : Pos} (h : Q (.bool x) s) : WP w A (eval (.Constant (.bool x) k pos) env) Q s := fun _ _ _ => h
theorem r_add (S : St z h₀ L l cs s) (h : ∀ t s', St z h₀ L l cs s' → Q (.int (a + b) t) s') : WP w A (binaryOp .Add (.int a t) (.int b u)) Q s := PyProof.Rows.add_int (h _ _ (S.toks _))
theorem r_sub (S : St z h₀ L l cs s) (h : ∀ t s', St z h₀ L l cs s' → Q (.int (a - b) t) s') : WP w A (binaryOp .Sub (.int a t) (.int b u)) Q s := PyProof.Rows.sub_int (h _ _ (S.toks _))
theorem r_mul (S : St z h₀ L l cs s) (hm : IntMulOk a b) (h : ∀ t s', St z h₀ L l cs s' → Q (.int (a * b) t) s') : WP w A (binaryOp .Mult (.int a t) (.int b u)) Q s := PyProof.Rows.mul_int (h _ _ (S.toks _)) hm
theorem r_mod (S : St z h₀ L l cs s) (hb : 0 < b) (h : ∀ t s', St z h₀ L l cs s' → Q (.int (a % b) t) s') : WP w A (binaryOp .Mod (.int a t) (.int b u)) Q s :=
  mod_int' (by omega) (by rw [Int.fmod_eq_emod_of_nonneg _ (by omega)]; exact h _ _ (S.toks _))
theorem r_fdiv (S : St z h₀ L l cs s) (hb : 0 < b) (hb2 : b < 1000000) (h : ∀ t s', St z h₀ L l cs s' → Q (.int (a / b) t) s') : WP w A (binaryOp .FloorDiv (.int a t) (.int b u)) Q s :=
  floordiv_int (by omega) (by rw [Int.fdiv_eq_ediv_of_nonneg _ (by omega)]; exact h _ _ (S.toks _)) (.inl (PyProof.noPylong_small (by omega)))
theorem r_shr (S : St z h₀ L l cs s) (hb : 0 ≤ b) (h : ∀ t s', St z h₀ L l cs s' → Q (.int (a / 2 ^ b.toNat) t) s') : WP w A (binaryOp .RShift (.int a t) (.int b u)) Q s :=
  rshift_int hb (by
    have e : (0 : Int) ≤ 2 ^ b.toNat := Int.pow_nonneg (by omega)
    rw [Int.fdiv_eq_ediv_of_nonneg _ e]; exact h _ _ (S.toks _))
theorem r_shl (S : St z h₀ L l cs s) (hb : 0 ≤ b) (hb2 : b ≤ 1000000) (ha : a.natAbs < 2 ^ 64) (h : ∀ t s', St z h₀ L l cs s' → Q (.int (a * 2 ^ b.toNat) t) s') : WP w A (binaryOp .LShift (.int a t) (.int b u)) Q s :=
  lshift_int_small hb hb2 ha (h _ _ (S.toks _))
theorem r_and (S : St z h₀ L l cs s) (h : ∀ t s', St z h₀ L l cs s' → Q (.int (Builtin.bitAnd a b) t) s') : WP w A (binaryOp .BitAnd (.int a t) (.int b u)) Q s := and_int (h _ _ (S.toks _))
theorem r_or (S : St z h₀ L l cs s) (h : ∀ t s', St z h₀ L l cs s' → Q (.int (Builtin.bitOr a b) t) s') : WP w A (binaryOp .BitOr (.int a t) (.int b u)) Q s := or_int (h _ _ (S.toks _))
theorem r_neg (S : St z h₀ L l cs s) (h : ∀ t s', St z h₀ L l cs s' → Q (.int (-a) t) s') : WP w A (unaryOp .USub (.int a t)) Q s := PyProof.Rows.neg_int (h _ _ (S.toks _))
theorem r_iadd (S : St z h₀ L l cs s) (h : ∀ t s', St z h₀ L l cs s' → Q (.int (a + b) t) s') : WP w A (inplaceOp .Add (.int a t) (.int b u)) Q s := PyProof.Rows.iadd_int (h _ _ (S.toks _))
theorem r_isub (S : St z h₀ L l cs s) (h : ∀ t s', St z h₀ L l cs s' → Q (.int (a - b) t) s') : WP w A (inplaceOp .Sub (.int a t) (.int b u)) Q s := PyProof.Rows.isub_int (h _ _ (S.toks _))
theorem r_pow (S : St z h₀ L l cs s) (hn : 0 ≤ b) (hsz : (Builtin.Int.intBits a : Int) * b ≤ 2 ^ 27) (h : ∀ t s', St z h₀ L l cs s' → Q (.int (a ^ b.toNat) t) s') : WP w A (binaryOp .Pow (.int a t) (.int b u)) Q s := pow_int hn hsz (h _ _ (S.toks _))

theorem r_lt (h : Q (.bool (decide (a < b))) s) : WP w A (compareOp .Lt (.int a t) (.int b u)) Q s := PyProof.Rows.lt_int h
theorem r_le (h : Q (.bool (decide (a ≤ b))) s) : WP w A (compareOp .LtE (.int a t) (.int b u)) Q s := PyProof.Rows.le_int h
theorem r_gt (h : Q (.bool (decide (b < a))) s) : WP w A (compareOp .Gt (.int a t) (.int b u)) Q s := PyProof.Rows.gt_int h
theorem r_ge (h : Q (.bool (decide (b ≤ a))) s) : WP w A (compareOp .GtE (.int a t) (.int b u)) Q s := PyProof.Rows.ge_int h
theorem r_eq (h : Q (.bool (a == b)) s) : WP w A (compareOp .Eq (.int a t) (.int b u)) Q s := PyProof.Rows.eq_int h
theorem r_ne (h : Q (.bool (a != b)) s) : WP w A (compareOp .NotEq (.int a t) (.int b u)) Q s := PyProof.Rows.ne_int h
end
end Mine
namespace Mine
set_option linter.unusedSectionVars false
set_option maxRecDepth 100000
set_option maxHeartbeats 8000000
section
variable {w : World} {A : Around} {z s : Shared} {h₀ : Heap} {L a : Addr} {l : List (Str × AV)} {cs : List (Addr × Obj)} {env : Env} {n : Nat} {cn : Str} {sc : Scope} {cd : Value}

/-- marks: where the walk is to stop -/
def CallK (w : World) (A : Around) (f : Value) (args : List Value) (Q : Value → Shared → Prop) (s : Shared) : Prop := WP w A (call f args []) Q s
theorem CallK.of {f : Value} {args : List Value} {Q : Value → Shared → Prop} (h : WP w A (call f args []) Q s) : CallK w A f args Q s := h

theorem r_callWith {pos : Pos} {f : Value} {first : List Value} {e : Expr} {rest : List Expr} {Q : Value → Shared → Prop} (C : Cx w A h₀ L n) (S : St z h₀ L l cs s) (hk : keepIn (hd.heap_1 w.params) f = true)
    (h : WP w A (spliced (backTo pos (starEach (e :: rest) env))) (fun vs s₁ => (∃ l cs, St z h₀ L l cs s₁) ∧ CallK w A f (first ++ vs) Q s₁) s)
    (he : starEach (e :: rest) env = (false, eval e env) :: starEach rest env) (hplain : (backTo pos (starEach rest env)).any (·.1) = false) :
    WP w A (callWith pos f first (backTo pos (starEach (e :: rest) env)) []) Q s := by
  refine callWith_K C.K hk (wpAny_mono h (fun vs s₁ hh => ?_) fun _ _ e => e) he hplain
  obtain ⟨⟨l, cs, S⟩, hh⟩ := hh
  obtain ⟨m, F, _⟩ := S.fr
  exact ⟨C.K.keeps F.keep, hh⟩
theorem r_callWith0 {pos : Pos} {f : Value} {first : List Value} {Q : Value → Shared → Prop} (C : Cx w A h₀ L n) (S : St z h₀ L l cs s) (hk : keepIn (hd.heap_1 w.params) f = true) (h : CallK w A f (first ++ []) Q s) :
    WP w A (callWith pos f first (backTo pos (starEach [] env)) []) Q s := by
  obtain ⟨m, F, _⟩ := S.fr
  exact callWith_K0 (C.K.keeps F.keep) hk h

def IterAt (w : World) (A : Around) (env : Env) (target : Expr) (body : List Stmt) (Q : Flow → Shared → Prop) (v : Value) (s : Shared) : Prop :=
  WP w A (pyIter v) (fun it s₂ => codeAny (model PG w) A (.forLoop target it body [] env) (fun r s' => match r with | .ok f => Q f s' | .error _ => False) s₂) s
theorem r_For {target iter : Expr} {body : List Stmt} {pos : Pos} {Q : Flow → Shared → Prop} (h : WP w A (eval iter env) (IterAt w A env target body Q) s)
    (hs : ∀ x, foldedSetIterable iter env x = pure x := by intro _; rfl) : WP w A (exec (.For target iter body [] pos) env) Q s :=
  wpAny_For (wpAny_mono h (fun _ _ h₁ => wpAny_mono h₁ (fun _ _ h₂ => codeAny_mono h₂ fun r _ hr => by cases r with | ok f => exact hr | error e => exact hr.elim) fun _ _ e => e) fun _ _ e => e) hs

def LoopEnd (z : Shared) (h₀ : Heap) (L : Addr) (J : List (Str × AV) → List (Addr × Obj) → Prop) (it : Addr × Obj) (Q : Flow → Shared → Prop) (f : Flow) (s : Shared) : Prop :=
  match f with
  | .ret v => Q (.ret v) s
  | .brk => Q .next s
  | _ => ∃ l c, J l c ∧ St z h₀ L l (it :: c) s

theorem LoopEnd.next {J : List (Str × AV) → List (Addr × Obj) → Prop} {it : Addr × Obj} {Q : Flow → Shared → Prop} {l : List (Str × AV)} {c : List (Addr × Obj)} (S : St z h₀ L l (it :: c) s) (h : J l c) : LoopEnd z h₀ L J it Q .next s := ⟨l, c, h, S⟩
theorem LoopEnd.cont {J : List (Str × AV) → List (Addr × Obj) → Prop} {it : Addr × Obj} {Q : Flow → Shared → Prop} {l : List (Str × AV)} {c : List (Addr × Obj)} (S : St z h₀ L l (it :: c) s) (h : J l c) : LoopEnd z h₀ L J it Q .cont s := ⟨l, c, h, S⟩
theorem LoopEnd.ret {J : List (Str × AV) → List (Addr × Obj) → Prop} {it : Addr × Obj} {Q : Flow → Shared → Prop} {v : Value} (h : Q (.ret v) s) : LoopEnd z h₀ L J it Q (.ret v) s := h

theorem r_loop {target : Expr} {body : List Stmt} {Q : Flow → Shared → Prop} {I : Addr} {io : Obj} {fp : List Addr} {n : Nat} {P : Nat → Value → Prop} {Stt : Nat → Heap → Prop} (W : Walks PG w A I fp [I] n P Stt)
    (J : Nat → List (Str × AV) → List (Addr × Obj) → Prop)
    (hfp : ∀ b ∈ fp, b = I ∨ ∃ o, ∀ i l c, J i l c → (b, o) ∈ c)
    (hit : ∀ i h, Stt i h → ∃ o, h.get? I = some o ∧ ∀ es ep, o.data ≠ .dict es ep)
    (S : St z h₀ L l ((I, io) :: cs) s) (hst : Stt 0 s.heap) (hJ : J 0 l cs)
    (hgo : ∀ i v s' (Q : Unit → Shared → Prop), P i v → Stt (i + 1) s'.heap → Q () s' → WP w A (letOwnedTupleGo target (.ref I) v) Q s')
    (turn : ∀ i v l c io s', i < n → P i v → J i l c → St z h₀ L l ((I, io) :: c) s' → WP w A (assign target env v) (fun _ s₁ => WP w A (execs body env) (LoopEnd z h₀ L (J (i + 1)) (I, io) Q) s₁) s')
    (done : ∀ l c s', J n l c → St z h₀ L l c s' → Q .next s') :
    codeAny (model PG w) A (.forLoop target (.ref I) body [] env) (fun r s' => match r with | .ok f => Q f s' | .error _ => False) s := by
  refine codeAny_forLoop_any (fun k s' => ∃ i l c io, St z h₀ L l ((I, io) :: c) s' ∧ Stt i s'.heap ∧ J i l c ∧ i ≤ n ∧ k = n - i) ?_ n ⟨0, l, cs, io, S, hst, hJ, Nat.zero_le _, rfl⟩
  rintro k s' ⟨i, l', c, io', S', hst', hJ', hi, rfl⟩
  -- one more look at the iterator keeps all but the iterator
  have next : ∀ (h₁ : Heap) (tk : Nat), (∀ b o, b ∉ [I] → s'.heap.get? b = some o → h₁.get? b = some o) → St z h₀ L l' c { s' with heap := h₁, toks := tk } := fun h₁ tk hk => by
    have S1 := S'.weaken (l' := l') (cs' := c) (fun _ h => h) S'.nl (List.sublist_cons_self _ _)
    obtain ⟨m, F, hl⟩ := S1.fr
    have hI := S'.news (I, io') List.mem_cons_self
    have nd := S'.nd
    simp only [List.map_cons, List.nodup_cons] at nd
    refine ⟨S1.gens, S1.os, ⟨m, ⟨F.ns.at' fun o e => hk _ o (fun q => hI.2.1 (List.mem_singleton.mp q).symm) e, fun b o e => hk b o (fun q => ?_) (F.keep b o e), F.above⟩, hl⟩, S1.nl, fun p hp => ⟨hk _ _ (fun q => ?_) (S1.news p hp).1, (S1.news p hp).2⟩, S1.nd, S1.low⟩
    · have := hI.2.2; rw [← List.mem_singleton.mp q, e] at this; cases this
    · exact nd.1 ((List.mem_singleton.mp q) ▸ List.mem_map_of_mem (f := (·.1)) hp)
  have toF : ∀ {α : Type} {t : Sem α} {Q' : α → Shared → Prop} {s₁ : Shared} {E : Value → Shared → Prop}, WP w A t Q' s₁ → wpAny (model PG w) A t Q' E s₁ := fun h => wpAny_mono h (fun _ _ x => x) fun _ _ x => x.elim
  by_cases hlt : i < n
  · refine W.item i _ _ _ hlt hst' fun v h₁ tk₁ hP hst₁ hk₁ => ?_
    have S1 := next h₁ tk₁ hk₁
    -- the iterator itself
    have hI := S'.news (I, io') List.mem_cons_self
    obtain ⟨io₁, hio, hnd⟩ := hit _ _ hst₁
    refine hgo i v _ _ hP hst₁ ?_ |> toF
    · have S2 : St z h₀ L l' ((I, io₁) :: c) { s' with heap := h₁, toks := tk₁ } := ⟨S1.gens, S1.os, S1.fr, S1.nl, fun p hp => by
        rcases List.mem_cons.mp hp with rfl | hp
        · exact ⟨hio, hI.2⟩
        · exact S1.news p hp, S'.nd, fun p hp => by
        rcases List.mem_cons.mp hp with rfl | hp
        · exact fun ⟨_, _, e⟩ => absurd e (hnd _ _)
        · exact S1.low p hp⟩
      refine toF (wpAny_mono (turn i v l' c io₁ _ hlt hP hJ' S2) (fun _ s₂ h₂ => toF (wpAny_mono h₂ (fun f s₃ h₃ => ?_) fun _ _ x => x)) fun _ _ x => x)
      have fin : (∃ l c, J (i + 1) l c ∧ St z h₀ L l ((I, io₁) :: c) s₃) → ∃ m, m < n - i ∧ ∃ i l c io, St z h₀ L l ((I, io) :: c) s₃ ∧ Stt i s₃.heap ∧ J i l c ∧ i ≤ n ∧ m = n - i := by
        rintro ⟨l₃, c₃, hJ₃, S₃⟩
        refine ⟨n - (i + 1), by omega, i + 1, l₃, c₃, io₁, S₃, W.frame _ _ _ hst₁ fun b hb o e => ?_, hJ₃, hlt, rfl⟩
        rcases hfp b hb with rfl | ⟨o₁, ho₁⟩
        · rw [hio] at e; cases e; exact (S₃.news _ List.mem_cons_self).1
        · have e1 : h₁.get? b = some o₁ := (S1.news _ (ho₁ _ _ _ hJ')).1
          rw [e1] at e; cases e
          exact (S₃.news _ (List.mem_cons_of_mem _ (ho₁ _ _ _ hJ₃))).1
      cases f with
      | next => exact fin h₃
      | cont => exact fin h₃
      | brk => exact h₃
      | ret v => exact h₃
  · have hin : i = n := by omega
    subst hin
    refine W.done _ _ _ hst' fun h₁ tk₁ hk₁ => toF (wpAny_execs_nil ?_)
    exact done l' c _ hJ' (next h₁ tk₁ hk₁)

/-- a for over a list -/
theorem r_iter_list {x : Str} {px : Pos} {body : List Stmt} {Q : Flow → Shared → Prop} {d : Addr} {o : Obj} {xs : List AV} (C : Cx w A h₀ L n) (S : St z h₀ L l cs s) (ho : LI o xs)
    (J : Nat → List (Str × AV) → List (Addr × Obj) → Prop) (hJ : J 0 l cs) (hm : ∀ i l c, J i l c → (d, o) ∈ c)
    (turn : ∀ i v av l c io I s', xs[i]? = some av → av.is v → J i l c → St z h₀ L l ((I, io) :: c) s' → WP w A (storeName env x v) (fun _ s₁ => WP w A (execs body env) (LoopEnd z h₀ L (J (i + 1)) (I, io) Q) s₁) s')
    (done : ∀ l c s', J xs.length l c → St z h₀ L l c s' → Q .next s') : IterAt w A env (.Name x px) body Q (.ref d) s := by
  obtain ⟨vs, ep, rfl, hv⟩ := ho
  have hlen := hv.length
  have hl : s.heap.IsList d vs.toArray := ⟨_, (S.news _ (hm _ _ _ hJ)).1, rfl, ep, rfl⟩
  refine wpAny_pyIter_list hl ?_
  have hne : d ≠ s.heap.objs.size := Nat.ne_of_lt (Heap.lt_size (S.news _ (hm _ _ _ hJ)).1)
  have W := Walks.list (prog := PG) (w := w) C.handled s.heap.objs.size d hne vs.toArray
  rw [show vs.toArray.size = xs.length by simp [hlen]] at W
  have S1 : St z h₀ L l ((s.heap.objs.size, _) :: cs) { s with heap := s.heap.push { cls := .type "list_iterator", data := .fields #[.ref d, .int 0 0] } } := S.alloc C rfl (fun b x q => Heap.get?_push_of_some _ q) (Heap.get?_push_size _ rfl)
  refine r_loop W J (fun b hb => ?_) (fun i h hs => ?_) S1 ⟨⟨_, Heap.get?_push_size _ rfl, rfl, rfl⟩, hl.at fun o e => Heap.get?_push_of_some _ e⟩ hJ (fun i v s' Q hP hs hq => wpAny_pure hq) (fun i v l c io s' hi hP hJ' S' => ?_) done
  · simp only [List.mem_cons, List.not_mem_nil, or_false] at hb
    rcases hb with rfl | rfl
    · exact .inl rfl
    · exact .inr ⟨_, hm⟩
  · obtain ⟨o, ho, _, hd'⟩ := hs.1; exact ⟨o, ho, fun es ep e => by simp [e] at hd'⟩
  · obtain ⟨u, hu, iu⟩ := hv.get i xs[i] (by simp [hi])
    have e : v = u := by
      have hP' : vs[i]? = some v := by simpa using hP
      rw [hu] at hP'; exact (Option.some.inj hP').symm
    subst e
    exact wpAny_assign_Name (turn i v xs[i] l c io _ s' (by simp [hi]) iu hJ' S')

/-- a for over a dict's keys -/
theorem r_iter_dict {x : Str} {px : Pos} {body : List Stmt} {Q : Flow → Shared → Prop} {d : Addr} {o : Obj} {es : List (Int × AV)} (C : Cx w A h₀ L n) (S : St z h₀ L l cs s) (ho : DI w o es)
    (J : Nat → List (Str × AV) → List (Addr × Obj) → Prop) (hJ : J 0 l cs) (hm : ∀ i l c, J i l c → (d, o) ∈ c)
    (turn : ∀ i k t l c io I s', (es.map (·.1))[i]? = some k → J i l c → St z h₀ L l ((I, io) :: c) s' → WP w A (storeName env x (.int k t)) (fun _ s₁ => WP w A (execs body env) (LoopEnd z h₀ L (J (i + 1)) (I, io) Q) s₁) s')
    (done : ∀ l c s', J es.length l c → St z h₀ L l c s' → Q .next s') : IterAt w A env (.Name x px) body Q (.ref d) s := by
  obtain ⟨kvs, hd, hv⟩ := ho
  have hlen := hv.length
  have hmm := S.news _ (hm _ _ _ hJ)
  obtain ⟨ep, hat⟩ := (dictOf_of S (hm _ _ _ hJ) hd).dictAt
  refine wpAny_pyIter_dict (S.lo _ (hm _ _ _ hJ) (dat hd)) hat ?_
  have hne : d ≠ s.heap.objs.size := Nat.ne_of_lt (Heap.lt_size hmm.1)
  have W := Walks.dictKeys (prog := PG) (w := w) C.handled s.heap.objs.size d hne kvs ep (knd := intKind PG w)
  rw [hlen] at W
  have S1 : St z h₀ L l ((s.heap.objs.size, _) :: cs) { s with heap := s.heap.push { cls := .type "dict_keyiterator", data := .fields #[.ref d, .int 0 0, .int kvs.length 0, .int ep 0] } } := S.alloc C rfl (fun b x q => Heap.get?_push_of_some _ q) (Heap.get?_push_size _ rfl)
  refine r_loop W J (fun b hb => ?_) (fun i h hs => ?_) S1 ⟨⟨_, Heap.get?_push_size _ rfl, rfl, by rw [hlen]; rfl⟩, hat.push _⟩ hJ (fun i v s' Q hP hs hq => wpAny_pure hq) (fun i v l c io s' hi hP hJ' S' => ?_) done
  · simp only [List.mem_cons, List.not_mem_nil, or_false] at hb
    rcases hb with rfl | rfl
    · exact .inl rfl
    · exact .inr ⟨_, hm⟩
  · obtain ⟨o, ho, _, hd'⟩ := hs.1; exact ⟨o, ho, fun es ep e => by simp [e] at hd'⟩
  · obtain ⟨k, u, hx, hk⟩ := hP
    obtain ⟨t, rfl⟩ := Value.isInt_shape hk
    obtain ⟨a, ha, _⟩ := hv.getElem i k u hx
    exact wpAny_assign_Name (turn i k t l c io _ s' (by simp [ha]) hJ' S')
end
end Mine
namespace Mine
set_option linter.unusedVariables false
set_option linter.unusedSectionVars false
set_option maxRecDepth 100000
set_option maxHeartbeats 8000000

def RI (o : Obj) (k : Int) : Prop := ∃ t u v, o = { cls := .type "range", data := .fields #[.int 0 t, .int k u, .int 1 v] }
def RevI (o : Obj) (d : Addr) (k : Nat) : Prop := o = revObj d ((k : Int) - 1)
/-- an object's two attributes -/
def G2 (n1 n2 : Str) (o : Obj) (a b : Addr) : Prop := ∃ h1 t1 h2 t2 k, o = dictOf [⟨h1, .str n1 t1, .ref a⟩, ⟨h2, .str n2 t2, .ref b⟩] k

section
variable {w : World} {A : Around} {z s : Shared} {h₀ : Heap} {L a : Addr} {l : List (Str × AV)} {cs : List (Addr × Obj)} {env : Env} {n : Nat} {cn : Str} {sc : Scope} {cd : Value}

theorem r_range {k : Int} {t : Tok} {Q : Value → Shared → Prop} (C : Cx w A h₀ L n) (S : St z h₀ L l cs s) (h : ∀ r o s', RI o k → St z h₀ L l ((r, o) :: cs) s' → Q (.ref r) s') : WP w A (call (.type "range") [.int k t]) Q s :=
  call_range_1 (h _ _ _ ⟨_, _, _, rfl⟩ (S.alloc C rfl (fun b x q => Heap.get?_push_of_some _ q) (Heap.get?_push_size _ rfl)))
theorem r_reversed {d : Addr} {o : Obj} {xs : List AV} {Q : Value → Shared → Prop} (C : Cx w A h₀ L n) (S : St z h₀ L l cs s) (hm : (d, o) ∈ cs) (ho : LI o xs)
    (h : ∀ r o' s', RevI o' d xs.length → St z h₀ L l ((r, o') :: cs) s' → Q (.ref r) s') : WP w A (call (.type "reversed") [.ref d]) Q s := by
  obtain ⟨vs, ep, rfl, hv⟩ := ho
  refine call_reversed_list (items := vs.toArray) ⟨_, (S.news _ hm).1, rfl, ep, rfl⟩ (h _ _ _ ?_ (S.alloc C rfl (fun b x q => Heap.get?_push_of_some _ q) (Heap.get?_push_size _ rfl)))
  unfold RevI; rw [← hv.length]; simp

theorem r_iter_range {x : Str} {px : Pos} {body : List Stmt} {Q : Flow → Shared → Prop} {r : Addr} {o : Obj} {k : Int} {l' : List (Str × AV)} {cs' : List (Addr × Obj)} (C : Cx w A h₀ L n) (S : St z h₀ L l' cs' s) (hr : (r, o) ∈ cs') (ho : RI o k) (hk0 : 0 ≤ k) (hk : k < 1000000) (S0 : St z h₀ L l cs s)
    (J : Nat → List (Str × AV) → List (Addr × Obj) → Prop) (hJ : J 0 l cs)
    (turn : ∀ (i : Nat) t l c io I s', (i : Int) < k → J i l c → St z h₀ L l ((I, io) :: c) s' → WP w A (storeName env x (.int i t)) (fun _ s₁ => WP w A (execs body env) (LoopEnd z h₀ L (J (i + 1)) (I, io) Q) s₁) s')
    (done : ∀ l c s', J k.toNat l c → St z h₀ L l c s' → Q .next s') : IterAt w A env (.Name x px) body Q (.ref r) s := by
  obtain ⟨t, u, v, rfl⟩ := ho
  refine wpAny_pyIter_range (S.news _ hr).1 (small_one (by omega) (by omega) (by omega) (by omega)) ?_
  rw [rangeSize_nat]
  have W := Walks.range (prog := PG) (w := w) C.handled s.heap.objs.size 0 1 (k - 0).toNat
  have S1 : St z h₀ L l ((s.heap.objs.size, _) :: cs) { s with heap := s.heap.push { cls := .type "range_iterator", data := .fields #[rawInt 0, rawInt (((k - 0).toNat : Nat) : Int), rawInt 1] } } := S0.alloc C rfl (fun b x q => Heap.get?_push_of_some _ q) (Heap.get?_push_size _ rfl)
  refine r_loop W J (fun b hb => .inl (by simpa using hb)) (fun i h hs => ⟨_, hs, fun es ep e => nomatch e⟩) S1 ?_ hJ (fun i v s' Q hP hs hq => wpAny_pure hq) (fun i v l c io s' hi hP hJ' S' => ?_) (fun l c s' hJ' S' => done l c s' (by simpa using hJ') S')
  · have := Heap.get?_push_size s.heap (o := { cls := .type "range_iterator", data := .fields #[rawInt 0, rawInt (((k - 0).toNat : Nat) : Int), rawInt 1] }) rfl
    simpa using this
  · obtain ⟨t, rfl⟩ := hP
    have := turn i t l c io _ s' (by omega) hJ' S'
    simp only [Int.mul_one, Int.zero_add]
    exact wpAny_assign_Name this

theorem r_iter_rev {x : Str} {px : Pos} {body : List Stmt} {Q : Flow → Shared → Prop} {r d : Addr} {o ro : Obj} {xs : List AV} (C : Cx w A h₀ L n) (S : St z h₀ L l ((r, ro) :: cs) s) (hro : RevI ro d xs.length) (ho : LI o xs)
    (J : Nat → List (Str × AV) → List (Addr × Obj) → Prop) (hJ : J 0 l cs) (hm : ∀ i l c, J i l c → (d, o) ∈ c)
    (turn : ∀ i v av l c io I s', xs.reverse[i]? = some av → av.is v → J i l c → St z h₀ L l ((I, io) :: c) s' → WP w A (storeName env x v) (fun _ s₁ => WP w A (execs body env) (LoopEnd z h₀ L (J (i + 1)) (I, io) Q) s₁) s')
    (done : ∀ l c s', J xs.length l c → St z h₀ L l c s' → Q .next s') : IterAt w A env (.Name x px) body Q (.ref r) s := by
  obtain ⟨vs, ep, rfl, hv⟩ := ho
  subst hro
  have hlen := hv.length
  have hl : s.heap.IsList d vs.toArray := ⟨_, (S.news _ (List.mem_cons_of_mem _ (hm _ _ _ hJ))).1, rfl, ep, rfl⟩
  have hri : s.heap.IsRevIter r d (((vs.toArray.size : Nat) : Int) - 1 - ((0 : Nat) : Int)) := ⟨_, (S.news _ List.mem_cons_self).1, rfl, by simp [hlen, revObj]⟩
  refine wpAny_pyIter_revIter hri ?_
  have hne : d ≠ r := fun e => by
    have nd := S.nd
    simp only [List.map_cons, List.nodup_cons] at nd
    exact nd.1 (e ▸ List.mem_map_of_mem (f := (·.1)) (hm _ _ _ hJ))
  have W := Walks.listRev (prog := PG) (w := w) C.handled r d hne vs.toArray
  rw [show vs.toArray.size = xs.length by simp [hlen]] at W
  refine r_loop W J (fun b hb => ?_) (fun i h hs => ?_) S ⟨Nat.zero_le _, by simpa [hlen] using hri, hl⟩ hJ (fun i v s' Q hP hs hq => wpAny_pure hq) (fun i v l c io s' hi hP hJ' S' => ?_) done
  · simp only [List.mem_cons, List.not_mem_nil, or_false] at hb
    rcases hb with rfl | rfl
    · exact .inl rfl
    · exact .inr ⟨_, hm⟩
  · obtain ⟨o, ho, _, hd'⟩ := hs.2.1; exact ⟨o, ho, fun es ep e => by simp [e] at hd'⟩
  · have hi' : xs.length - 1 - i < xs.length := by omega
    obtain ⟨u, hu, iu⟩ := hv.get (xs.length - 1 - i) xs[xs.length - 1 - i] (by simp [hi'])
    have e : v = u := by
      have hP' : vs[xs.length - 1 - i]? = some v := by simpa using hP
      rw [hu] at hP'; exact (Option.some.inj hP').symm
    subst e
    refine wpAny_assign_Name (turn i v xs[xs.length - 1 - i] l c io _ s' ?_ iu hJ' S')
    rw [List.getElem?_reverse hi]; simp [hi']

def WhileAt (w : World) (A : Around) (env : Env) (test : Expr) (body : List Stmt) (Q : Flow → Shared → Prop) (s : Shared) : Prop :=
  codeAny (model PG w) A (.whileLoop test body [] env) (fun r s' => match r with | .ok f => Q f s' | .error _ => False) s
theorem r_While {test : Expr} {body : List Stmt} {pos : Pos} {Q : Flow → Shared → Prop} (h : WhileAt w A env test body Q s) : WP w A (exec (.While test body [] pos) env) Q s :=
  wpAny_While (codeAny_mono h fun r _ hr => by cases r with | ok f => exact hr | error e => exact hr.elim)
def WEnd (z : Shared) (h₀ : Heap) (L : Addr) (J : Nat → List (Str × AV) → List (Addr × Obj) → Prop) (k : Nat) (Q : Flow → Shared → Prop) (f : Flow) (s : Shared) : Prop :=
  match f with
  | .ret v => Q (.ret v) s
  | .brk => Q .next s
  | _ => ∃ m l c, m < k ∧ J m l c ∧ St z h₀ L l c s
theorem WEnd.next {J : Nat → List (Str × AV) → List (Addr × Obj) → Prop} {k m : Nat} {Q : Flow → Shared → Prop} {l : List (Str × AV)} {c : List (Addr × Obj)} (S : St z h₀ L l c s) (hm : m < k) (h : J m l c) : WEnd z h₀ L J k Q .next s := ⟨m, l, c, hm, h, S⟩
theorem r_while {test : Expr} {body : List Stmt} {Q : Flow → Shared → Prop} (J : Nat → List (Str × AV) → List (Addr × Obj) → Prop) (k : Nat) (S : St z h₀ L l cs s) (hJ : J k l cs)
    (turn : ∀ k l c s', J k l c → St z h₀ L l c s' → WP w A (isTrue test env (eval test env)) (fun b s₂ => if b = true then WP w A (execs body env) (WEnd z h₀ L J k Q) s₂ else Q .next s₂) s') : WhileAt w A env test body Q s := by
  have toF : ∀ {α : Type} {t : Sem α} {Q' : α → Shared → Prop} {s₁ : Shared} {E : Value → Shared → Prop}, WP w A t Q' s₁ → wpAny (model PG w) A t Q' E s₁ := fun h => wpAny_mono h (fun _ _ x => x) fun _ _ x => x.elim
  refine codeAny_whileLoop (fun k s' => ∃ l c, J k l c ∧ St z h₀ L l c s') ?_ k ⟨l, cs, hJ, S⟩
  rintro k s' ⟨l', c, hJ', S'⟩
  refine toF (wpAny_mono (turn k l' c s' hJ' S') (fun b s₂ hb => ?_) fun _ _ x => x)
  cases b with
  | true =>
    simp only [if_true] at hb ⊢
    refine toF (wpAny_mono hb (fun f s₃ h₃ => ?_) fun _ _ x => x)
    cases f with
    | next => obtain ⟨m, l, c, h1, h2, h3⟩ := h₃; exact ⟨m, h1, l, c, h2, h3⟩
    | cont => obtain ⟨m, l, c, h1, h2, h3⟩ := h₃; exact ⟨m, h1, l, c, h2, h3⟩
    | brk => exact h₃
    | ret v => exact h₃
  | false =>
    simp only [Bool.false_eq_true, if_false] at hb ⊢
    exact toF (wpAny_execs_nil hb)

theorem r_getattr {g dx C₀ : Addr} {es : List DictEntry} {k : Nat} {name : Str} {v : Value} {attr : Option Value} {Q : Value → Shared → Prop} {expr : Bool} (C : Cx w A h₀ L n) (S : St z h₀ L l cs s)
    (hg : (g, instObj C₀ dx) ∈ cs) (hdx : (dx, dictOf es k) ∈ cs) (hp : plainGet (hd.heap_1 w.params) C₀ name = true) (hh : hasDictIn (hd.heap_1 w.params) C₀ = true)
    (ha : findIn (hd.heap_1 w.params) (.ref C₀) name = some attr) (hn : noGet (hd.heap_1 w.params) attr = true) (hl : getL name es = some (some v)) (hv : handedIn v = true) (h : ∀ s', St z h₀ L l cs s' → Q v s') :
    WP w A (getAttr (.ref g) name expr) Q s := by
  obtain ⟨m, F, _⟩ := S.fr
  exact get_own F C.K (InstAt.of_news S.news hg hdx) hp hh ha hn hl hv (h _ (S.toks _))
theorem r_getmethod {g dx C₀ f : Addr} {es : List DictEntry} {k : Nat} {name : Str} {Q : Value × List Value → Shared → Prop} {pl : Sem Bool} (C : Cx w A h₀ L n) (S : St z h₀ L l cs s)
    (hg : (g, instObj C₀ dx) ∈ cs) (hdx : (dx, dictOf es k) ∈ cs) (hp : plainGet (hd.heap_1 w.params) C₀ name = true)
    (hf : findIn (hd.heap_1 w.params) (.ref C₀) name = some (some (.ref f))) (ht : isFn (hd.heap_1 w.params) (.ref f) = true) (hl : getL name es = some none) (h : Q (.ref f, [.ref g]) s) :
    WP w A (getMethod (.ref g) name pl) Q s := by
  obtain ⟨m, F, _⟩ := S.fr
  exact method_inst F C.K (InstAt.of_news S.news hg hdx) hp hf ht hl h
theorem r_setattr {g dx C₀ : Addr} {es es' : List DictEntry} {k k' : Nat} {name : Str} {v : Value} {gg : Obj → List (Addr × Obj)} {Q : Unit → Shared → Prop} (C : Cx w A h₀ L n) (S : St z h₀ L l cs s)
    (hg : (g, instObj C₀ dx) ∈ cs) (U : At dx (dictOf es k) cs gg)
    (hs : findIn (hd.heap_1 w.params) (.ref C₀) "__setattr__" = some (some (.builtin "object.__setattr__"))) (hp : plainOver (hd.heap_1 w.params) C₀ = true) (ht : takerIn (hd.heap_1 w.params) C₀ name = some none)
    (hh : hasDictIn (hd.heap_1 w.params) C₀ = true) (hl : (getL name es).isSome = true)
    (e : (putL name (PyData.keyHash w.params name) (.str name (s.toks + 1)) v es, putN name es k) = (es', k')) (hz : es'.length ≤ 1000)
    (h : ∀ s', St z h₀ L l (gg (dictOf es' k')) s' → Q () s') : WP w A (setAttr (.ref g) name v) Q s := by
  obtain ⟨m, F, hlc⟩ := S.fr
  have I := InstAt.of_news (sl := #[]) S.news hg U.mem
  obtain ⟨pre, post, rfl, hgg⟩ := U.split
  have nd := S.nd
  simp only [List.map_append, List.map_cons, List.nodup_append, List.nodup_cons, List.mem_map, List.mem_cons] at nd
  obtain ⟨n1, ⟨n2, n3⟩, n4⟩ := nd
  have UU : Upd dx (dictOf es k) (dictOf es' k') (pre ++ (dx, dictOf es k) :: post) (pre ++ (dx, dictOf es' k') :: post) := by
    have h1 : ∀ p ∈ pre, p.1 ≠ dx := fun p hp e => n4 p.1 ⟨p, hp, rfl⟩ dx (.inl rfl) e
    have h2 : ∀ p ∈ post, p.1 ≠ dx := fun p hp e => n2 ⟨p, hp, e⟩
    clear n1 n2 n3 n4 S I hg U hgg
    induction pre with
    | nil => exact .head h2
    | cons p r ih => exact .tail (h1 p List.mem_cons_self) (ih fun q hq => h1 q (List.mem_cons_of_mem _ hq))
  refine set_dict F C.K S.news I rfl hs hp ht hh hl e UU hz fun h' F' N' => ?_
  rw [hgg] at h
  refine h _ ⟨S.gens, S.os, ⟨m, F', hlc⟩, S.nl, N', by have := S.nd; simpa using this, fun c hc => ?_⟩
  simp only [List.mem_append, List.mem_cons] at hc
  rcases hc with hc | rfl | hc
  · exact S.low c (by simp [hc])
  · exact fun _ => S.low (dx, dictOf es k) (by simp) ⟨_, _, rfl⟩
  · exact S.low c (by simp [hc])
end
end Mine
namespace Mine
set_option linter.unusedSectionVars false
set_option linter.unusedVariables false
set_option maxRecDepth 100000
set_option maxHeartbeats 8000000
theorem AVs.strs : ∀ {ns : List Str} {vs : List Value}, AVs (ns.map .str) vs → StrsAre vs ns
  | [], [], _ => .nil
  | n :: _, _ :: _, ⟨⟨t, rfl⟩, h⟩ => .cons n t h.strs
theorem LI.ints {o : Obj} {ns : List Int} (h : LI o (ns.map .int)) : ∃ vs n, o = listOf (List.toArray vs) n ∧ IntsAre vs ns := by
  obtain ⟨vs, n, e, hv⟩ := h; exact ⟨vs, n, e, hv.ints⟩
section
variable {w : World} {A : Around} {z s : Shared} {h₀ : Heap} {L a : Addr} {l : List (Str × AV)} {cs : List (Addr × Obj)} {env : Env} {n : Nat} {cn : Str} {sc : Scope} {cd : Value}

theorem r_tup_in {t : Addr} {o : Obj} {x : Str} {u : Tok} {ys : List Str} {Q : Value → Shared → Prop} (S : St z h₀ L l cs s) (hm : (t, o) ∈ cs) (ho : TI o (ys.map .str)) (h : Q (.bool (ys.any (· == x))) s) :
    WP w A (compareOp .In (.str x u) (.ref t)) Q s := by
  obtain ⟨vs, ep, rfl, hv⟩ := ho
  exact in_tuple_strs (items := vs.toArray) ⟨_, (S.news _ hm).1, rfl, ep, rfl⟩ (by simpa using hv.strs) h
theorem r_len_list {d : Addr} {o : Obj} {xs : List AV} {Q : Value → Shared → Prop} (S : St z h₀ L l cs s) (hm : (d, o) ∈ cs) (ho : LI o xs) (hn : xs.length < 1000000) (h : ∀ t s', St z h₀ L l cs s' → Q (.int xs.length t) s') :
    WP w A (call (.builtin "len") [.ref d]) Q s := by
  obtain ⟨vs, ep, rfl, hv⟩ := ho
  have e := hv.length
  refine call_len_list (items := vs.toArray) ⟨_, (S.news _ hm).1, rfl, ep, rfl⟩ (by simp; omega) ?_
  rw [show vs.toArray.size = xs.length by simp [e]]
  exact h _ _ (S.toks _)
theorem r_list_copy {d : Addr} {o : Obj} {xs : List AV} {Q : Value → Shared → Prop} (C : Cx w A h₀ L n) (S : St z h₀ L l cs s) (hm : (d, o) ∈ cs) (ho : LI o xs) (hn : xs.length < 1000000) (h : ∀ r o' s', LI o' xs → (∀ vs k, o = listOf vs k → ∃ k', o' = listOf vs k') → St z h₀ L l ((r, o') :: cs) s' → Q (.ref r) s') :
    WP w A (call (.type "list") [.ref d]) Q s := by
  obtain ⟨vs, ep, rfl, hv⟩ := ho
  have e := hv.length
  refine call_list_seq (items := vs.toArray) d (.inl rfl) (S.news _ hm).1 rfl rfl (fun h' c' hk hD => h _ _ _ ⟨vs, c', rfl, hv⟩ (fun vs' k e => ?_) (S.alloc C rfl hk hD)) (by rw [List.size_toArray, sizeLine_eq]; omega)
  cases e; exact ⟨c', rfl⟩
theorem r_count {d : Addr} {o : Obj} {k : Int} {u : Tok} {ns : List Int} {Q : Value → Shared → Prop} (S : St z h₀ L l cs s) (hm : (d, o) ∈ cs) (ho : LI o (ns.map .int)) (h : ∀ t s', St z h₀ L l cs s' → Q (.int (ns.count k : Nat) t) s') :
    WP w A (call (.builtin "list.count") [.ref d, .int k u]) Q s := by
  obtain ⟨vs, ep, rfl, hv⟩ := ho
  exact count_list_ints ⟨_, (S.news _ hm).1, rfl, ep, rfl⟩ hv.ints (h _ _ (S.toks _))
theorem r_listmeth {d : Addr} {o : Obj} {xs : List AV} {name : Str} {id : String} {pl : Sem Bool} {Q : Value × List Value → Shared → Prop} (S : St z h₀ L l cs s) (hm : (d, o) ∈ cs) (ho : LI o xs) (slot : Slot "list" name id) (hty : typeOf (.builtin id) = pure (.type "method_descriptor"))
    (h : Q (.builtin id, [.ref d]) s) : WP w A (getMethod (.ref d) name pl) Q s := by
  obtain ⟨vs, ep, rfl, hv⟩ := ho
  exact getMethod_builtin ⟨_, (S.news _ hm).1, rfl⟩ PySem.F.plainAttrs_list slot hty (fun a e => by cases e; exact ⟨_, (S.news _ hm).1, rfl⟩) h
theorem r_extend {d b : Addr} {o ob : Obj} {xs ys : List AV} {g : Obj → List (Addr × Obj)} {Q : Value → Shared → Prop} (S : St z h₀ L l cs s) (U : At d o cs g) (ho : LI o xs) (hb : (b, ob) ∈ cs) (hob : LI ob ys) (hn : xs.length < 1000000) (hn2 : ys.length < 1000000)
    (h : ∀ o' s', LI o' (xs ++ ys) → St z h₀ L l (g o') s' → Q .none s') : WP w A (call (.builtin "list.extend") [.ref d, .ref b]) Q s := by
  obtain ⟨vs, ep, rfl, hv⟩ := ho
  obtain ⟨us, eq, rfl, hu⟩ := hob
  have e1 := hv.length
  have e2 := hu.length
  have z1 := S.news _ U.mem
  obtain ⟨c, hc⟩ : ∃ c, (s.heap.update d (Obj.mapSeq (· ++ us.toArray))).get? d = some (seqObj "list" (vs.toArray ++ us.toArray) c) := ⟨_, get?_update_seq z1.1 (· ++ us.toArray)⟩
  have hc' : (s.heap.update d (Obj.mapSeq (· ++ us.toArray))).get? d = some (listOf (vs ++ us).toArray c) := by rw [hc]; simp [seqObj]
  refine call_meets PySem.F.slot_list_extend ⟨_, z1.1, rfl⟩ PySem.F.entry_list_extend (PySem.F.args_list_extend_2 _ _) (PySem.AutoSeq1.list_extend_list_list_0 d vs.toArray ep b us.toArray eq ?_ ?_ ?_) ⟨z1.1, (S.news _ hb).1, ?_⟩
  · exact extend_door (by simp only [List.size_toArray]; rw [sizeLine_eq]; omega)
  · rw [List.size_toArray, sizeLine_eq]; omega
  · simp only [List.size_toArray]; rw [sizeLine_eq]; omega
  · exact h _ _ ⟨_, c, rfl, hv.append hu⟩ (S.update (tk := s.toks) U (Heap.SameBut.update ..) hc' fun ⟨_, _, e⟩ => nomatch e)
theorem r_min {a b : Int} {t u : Tok} {Q : Value → Shared → Prop} (C : Cx w A h₀ L n) (S : St z h₀ L l cs s) (h : ∀ t s', St z h₀ L l cs s' → Q (.int (if b < a then b else a) t) s') : WP w A (call (.builtin "min") [.int a t, .int b u]) Q s :=
  min_two_ints C.handled fun h' tk hk => by
    have := h (if b < a then u else t) _ (S.keeps (tk := tk) hk)
    by_cases c : b < a
    · simpa [c] using this
    · simpa [c] using this
theorem r_max {a b : Int} {t u : Tok} {Q : Value → Shared → Prop} (C : Cx w A h₀ L n) (S : St z h₀ L l cs s) (h : ∀ t s', St z h₀ L l cs s' → Q (.int (if b > a then b else a) t) s') : WP w A (call (.builtin "max") [.int a t, .int b u]) Q s :=
  max_two_ints C.handled fun h' tk hk => by
    have := h (if b > a then u else t) _ (S.keeps (tk := tk) hk)
    by_cases c : b > a
    · simpa [c] using this
    · simpa [c] using this
end
end Mine
namespace Mine
theorem length_le_of_subset {α : Type} [DecidableEq α] : ∀ {a b : List α}, a.Nodup → (∀ x ∈ a, x ∈ b) → a.length ≤ b.length
  | [], _, _, _ => Nat.zero_le _
  | x :: r, b, hn, hs => by
    have hx : x ∈ b := hs x List.mem_cons_self
    rw [List.nodup_cons] at hn
    have h := length_le_of_subset (b := b.erase x) hn.2 (fun y hy => (List.mem_erase_of_ne (a := y) (b := x) (by intro e; subst e; exact hn.1 hy)).mpr (hs y (List.mem_cons_of_mem _ hy)))
    rw [List.length_erase_of_mem hx] at h
    have := List.length_pos_of_mem hx
    simp only [List.length_cons]; omega
theorem nodup_of_count {α : Type} [DecidableEq α] : ∀ {a : List α}, (∀ x, a.count x ≤ 1) → a.Nodup
  | [], _ => List.nodup_nil
  | x :: r, h => by
    rw [List.nodup_cons]
    refine ⟨fun hm => ?_, nodup_of_count fun y => ?_⟩
    · have h1 := h x
      rw [List.count_cons_self] at h1
      have := List.count_pos_iff.mpr hm
      omega
    · have h1 := h y
      rw [List.count_cons] at h1
      omega
theorem count_of_nodup {α : Type} [DecidableEq α] : ∀ {a : List α}, a.Nodup → ∀ x, a.count x ≤ 1
  | [], _, x => by simp
  | y :: r, h, x => by
    rw [List.nodup_cons] at h
    rw [List.count_cons]
    have := count_of_nodup h.2 x
    by_cases e : y = x
    · subst e
      have : r.count y = 0 := List.count_eq_zero.mpr h.1
      simp [this]
    · simp [e, this]
end Mine
namespace Mine
set_option linter.unusedSectionVars false
set_option linter.unusedVariables false
set_option maxRecDepth 100000
set_option maxHeartbeats 8000000
section
variable {w : World} {A : Around} {z s : Shared} {h₀ : Heap} {L a : Addr} {l : List (Str × AV)} {cs : List (Addr × Obj)} {env : Env} {n : Nat} {cn : Str} {sc : Scope} {cd : Value}
/-- fewer names, the ledger rearranged or less of it -/
theorem St.mono {l' : List (Str × AV)} {cs' : List (Addr × Obj)} (S : St z h₀ L l cs s) (hl : ∀ p ∈ l', p ∈ l) (hn : (l'.map (·.1)).Nodup) (hc : ∀ p ∈ cs', p ∈ cs) (hk : ∀ x, (cs'.map (·.1)).count x ≤ (cs.map (·.1)).count x) : St z h₀ L l' cs' s where
  gens := S.gens
  os := S.os
  fr := let ⟨m, F, hm⟩ := S.fr; ⟨m, F, fun p hp => hm p (hl p hp)⟩
  nl := hn
  news := fun p hp => S.news p (hc p hp)
  nd := nodup_of_count fun x => Nat.le_trans (hk x) (count_of_nodup S.nd x)
  low := fun c hp => S.low c (hc c hp)
theorem r_load {x : Str} {av : AV} {Q : Value → Shared → Prop} (S : St z h₀ L l cs s) (hm : (x, av) ∈ l) (h : ∀ v, av.is v → Q v s)
    (hk : sc.kind = .function := by rfl) (hx : (envX cn sc L a cd []).kindOf x = some .local := by rfl) : WP w A (loadName (envX cn sc L a cd []) x) Q s := by
  obtain ⟨m, F, hl⟩ := S.fr
  obtain ⟨v, hv, iv⟩ := hl _ hm
  exact wpAny_loadName_local hk hx F.ns hv (h v iv)
theorem St.names {l' : List (Str × AV)} (S : St z h₀ L l cs s) (hl : ∀ p ∈ l', p ∈ l) (hn : (l'.map (·.1)).Nodup) : St z h₀ L l' cs s := S.mono hl hn (fun _ h => h) fun _ => Nat.le_refl _
theorem St.cells {cs' : List (Addr × Obj)} (S : St z h₀ L l cs s) (hc : ∀ p ∈ cs', p ∈ cs) (hk : ∀ x, (cs'.map (·.1)).count x ≤ (cs.map (·.1)).count x) : St z h₀ L l cs' s := S.mono (fun _ h => h) S.nl hc hk
end

theorem AVs.nil : AVs [] [] := trivial
theorem AVs.cons {a : AV} {as : List AV} {v : Value} {vs : List Value} (h : a.is v) (k : AVs as vs) : AVs (a :: as) (v :: vs) := ⟨h, k⟩
theorem is_int {i : Int} {t : Tok} : AV.is (.int i) (.int i t) := ⟨t, rfl⟩
theorem is_str {x : Str} {t : Tok} : AV.is (.str x) (.str x t) := ⟨t, rfl⟩
theorem is_bool {b : Bool} : AV.is (.bool b) (.bool b) := rfl
theorem is_none : AV.is .none .none := rfl
theorem is_ref {a : Addr} : AV.is (.ref a) (.ref a) := rfl

/-- a row of code -/
structure Row where
  kind : Str
  name : Int
  left : Int
  right : Int
def Row.avs (r : Row) : List AV := [.str r.kind, .int r.name, .int r.left, .int r.right]
def RowsAt (cs : List (Addr × Obj)) (ra : Addr) (ro : Obj) (rows : List Row) : Prop :=
  (ra, ro) ∈ cs ∧ ∃ as : List Addr, LI ro (as.map .ref) ∧ as.length = rows.length ∧ ∀ (i : Nat) (r : Row), rows[i]? = some r → ∃ a o, as[i]? = some a ∧ (a, o) ∈ cs ∧ TI o r.avs
theorem RowsAt.mono {cs cs' : List (Addr × Obj)} {ra : Addr} {ro : Obj} {rows : List Row} (h : RowsAt cs ra ro rows) (hs : ∀ p ∈ cs, p ∈ cs') : RowsAt cs' ra ro rows := by
  obtain ⟨h1, as, h2, h3, h4⟩ := h
  refine ⟨hs _ h1, as, h2, h3, fun i r hr => ?_⟩
  obtain ⟨a, o, e1, e2, e3⟩ := h4 i r hr
  exact ⟨a, o, e1, hs _ e2, e3⟩

def twoOps : List Str := ["add", "sub", "mul", "and", "or", "xor", "shl", "asr", "ror", "less", "equal"]
def uses (r : Row) : List Int := if (twoOps.any fun x => x == r.kind) = true then (if r.left = r.right then [r.left] else [r.left, r.right]) else if (r.kind == "copy") = true then [r.left] else if (r.kind == "out") = true then [r.left] else []
def defOf (r : Row) : Int := if (r.kind == "out") = true then -1 else r.name
end Mine
namespace Mine
set_option linter.unusedSectionVars false
set_option linter.unusedVariables false
set_option linter.unusedSimpArgs false
set_option maxRecDepth 100000
section
variable {K α : Type} [DecidableEq K]
theorem getK_nil (j : K) : getK ([] : List (K × α)) j = none := rfl
theorem getK_cons (x : K) (u : α) (r : List (K × α)) (j : K) : getK ((x, u) :: r) j = if x = j then some u else getK r j := by
  unfold getK
  by_cases h : x = j <;> simp [h]
theorem any_getK (es : List (K × α)) (k : K) : (es.any fun e => decide (e.1 = k)) = (getK es k).isSome := by
  induction es with
  | nil => rfl
  | cons e r ih =>
    obtain ⟨x, u⟩ := e
    rw [getK_cons, List.any_cons, ih]
    by_cases h : x = k <;> simp [h]
theorem getK_map (es : List (K × α)) (k : K) (v : α) (j : K) : getK (es.map fun e => if e.1 = k then (e.1, v) else e) j = if j = k then (getK es j).map (fun _ => v) else getK es j := by
  induction es with
  | nil => simp [getK_nil]
  | cons e r ih =>
    obtain ⟨x, u⟩ := e
    rw [List.map_cons]
    by_cases h : x = k
    · subst h
      simp only [if_true, getK_cons, ih]
      by_cases hj : x = j
      · subst hj; simp
      · have hj' : ¬ j = x := fun e => hj e.symm
        simp [hj, hj']
    · simp only [h, if_false, getK_cons, ih]
      by_cases hj : x = j
      · subst hj; simp [h]
      · simp [hj]
theorem getK_append (es : List (K × α)) (k : K) (v : α) (j : K) : getK (es ++ [(k, v)]) j = (getK es j).or (if k = j then some v else none) := by
  induction es with
  | nil => simp [getK_cons, getK_nil]
  | cons e r ih =>
    obtain ⟨x, u⟩ := e
    rw [List.cons_append, getK_cons, getK_cons, ih]
    by_cases h : x = j <;> simp [h]
theorem getK_setK (es : List (K × α)) (k : K) (v : α) (j : K) : getK (setK es k v) j = if j = k then some v else getK es j := by
  unfold setK
  rw [any_getK]
  cases h : getK es k with
  | some u =>
    simp only [Option.isSome_some, if_true, getK_map]
    by_cases hj : j = k
    · subst hj; simp [h]
    · simp [hj]
  | none =>
    simp only [Option.isSome_none, Bool.false_eq_true, if_false, getK_append]
    by_cases hj : j = k
    · subst hj; simp [h]
    · have hj' : ¬ k = j := fun e => hj e.symm
      simp [hj, hj']
theorem keys_setK (es : List (K × α)) (k : K) (v : α) : (setK es k v).map (·.1) = if (getK es k).isSome then es.map (·.1) else es.map (·.1) ++ [k] := by
  unfold setK
  rw [any_getK]
  split
  · rw [List.map_map]
    apply List.map_congr_left
    intro e _
    show (if e.1 = k then (e.1, v) else e).1 = e.1
    split <;> rfl
  · simp
theorem length_setK (es : List (K × α)) (k : K) (v : α) : (setK es k v).length = if (getK es k).isSome then es.length else es.length + 1 := by
  have := congrArg List.length (keys_setK es k v)
  rw [List.length_map] at this
  rw [this]; split <;> simp
theorem mem_keys (es : List (K × α)) (k : K) : k ∈ es.map (·.1) ↔ (getK es k).isSome = true := by
  rw [← any_getK, List.any_eq_true]
  simp
theorem getK_delK (es : List (K × α)) (k j : K) : getK (delK es k) j = if j = k then none else getK es j := by
  unfold delK
  induction es with
  | nil => simp [getK_nil]
  | cons e r ih =>
    obtain ⟨x, u⟩ := e
    rw [List.filter_cons]
    by_cases h : x = k
    · subst h
      simp only [ne_eq, not_true_eq_false, decide_false, Bool.false_eq_true, if_false, ih, getK_cons]
      by_cases hj : j = x
      · simp [hj]
      · have hj' : ¬ x = j := fun e => hj e.symm
        simp [hj, hj']
    · simp only [ne_eq, h, not_false_eq_true, decide_true, if_true, getK_cons, ih]
      by_cases hj : x = j
      · subst hj; simp [h]
      · simp [hj]
theorem keys_delK (es : List (K × α)) (k : K) : (delK es k).map (·.1) = (es.map (·.1)).filter (fun j => decide (j ≠ k)) := by
  unfold delK
  rw [List.filter_map]; rfl
theorem getK_mem {es : List (K × α)} {k : K} {v : α} (h : getK es k = some v) : (k, v) ∈ es := by
  induction es with
  | nil => simp [getK_nil] at h
  | cons e r ih =>
    obtain ⟨x, u⟩ := e
    rw [getK_cons] at h
    by_cases hx : x = k
    · subst hx; simp at h; subst h; simp
    · simp only [hx, if_false] at h; exact List.mem_cons_of_mem _ (ih h)
theorem getK_of_mem {es : List (K × α)} (hn : (es.map (·.1)).Nodup) {k : K} {v : α} (h : (k, v) ∈ es) : getK es k = some v := by
  induction es with
  | nil => cases h
  | cons e r ih =>
    obtain ⟨x, u⟩ := e
    simp only [List.map_cons, List.nodup_cons] at hn
    rw [getK_cons]
    rcases List.mem_cons.mp h with e | h
    · cases e; simp
    · have : x ≠ k := fun e => hn.1 (e ▸ List.mem_map_of_mem (f := (·.1)) h)
      simp [this, ih hn.2 h]
end

/-- the spans, row by row -/
abbrev Lv := List (Int × (Int × Int))
def useStep (i : Int) (es : Lv) (v : Int) : Lv := setK es v (((getK es v).getD (0, 0)).1, 2 * i)
def spStep (i : Int) (es : Lv) (r : Row) : Lv :=
  let e1 := (uses r).foldl (useStep i) es
  if 0 ≤ defOf r then setK e1 (defOf r) (2 * i + 1, 2 * i + 1) else e1
def spansN (rows : List Row) : Nat → Lv
  | 0 => []
  | i + 1 => match rows[i]? with
    | some r => spStep i (spansN rows i) r
    | none => spansN rows i
def spansP (rows : List Row) : Lv := spansN rows rows.length

def Lives (w : World) (fo : Obj) (es : Lv) (tc : List (Addr × Obj)) : Prop :=
  ∃ des : List (Int × AV), DI w fo des ∧ des.map (·.1) = es.map (·.1) ∧ ∀ v s e, getK es v = some (s, e) → ∃ a o, getK des v = some (.ref a) ∧ (a, o) ∈ tc ∧ TI o [.int s, .int e]
theorem Lives.mono {w fo es tc tc'} (h : Lives w fo es tc) (hs : ∀ p ∈ tc, p ∈ tc') : Lives w fo es tc' := by
  obtain ⟨des, h1, h2, h3⟩ := h
  refine ⟨des, h1, h2, fun v s e hv => ?_⟩
  obtain ⟨a, o, a1, a2, a3⟩ := h3 v s e hv
  exact ⟨a, o, a1, hs _ a2, a3⟩
theorem isSome_of_keys {K α β : Type} [DecidableEq K] {as : List (K × α)} {bs : List (K × β)} (h : as.map (·.1) = bs.map (·.1)) (k : K) : (getK as k).isSome = (getK bs k).isSome := by
  rw [Bool.eq_iff_iff, ← mem_keys, ← mem_keys, h]
theorem Lives.set {w : World} {fo' : Obj} {es : Lv} {tc : List (Addr × Obj)} {des : List (Int × AV)} {v s e : Int} {a : Addr} {o : Obj} (h2 : des.map (·.1) = es.map (·.1)) (h3 : ∀ v s e, getK es v = some (s, e) → ∃ a o, getK des v = some (.ref a) ∧ (a, o) ∈ tc ∧ TI o [.int s, .int e])
    (hf : DI w fo' (setK des v (.ref a))) (ho : TI o [.int s, .int e]) : Lives w fo' (setK es v (s, e)) ((a, o) :: tc) := by
  refine ⟨_, hf, ?_, fun u x y hu => ?_⟩
  · rw [keys_setK, keys_setK, isSome_of_keys h2, h2]
  · rw [getK_setK] at hu ⊢
    by_cases hv : u = v
    · simp only [hv, if_true, Option.some.injEq, Prod.mk.injEq] at hu ⊢
      obtain ⟨rfl, rfl⟩ := hu
      exact ⟨a, o, rfl, List.mem_cons_self, ho⟩
    · simp only [hv, if_false] at hu ⊢
      obtain ⟨a', o', b1, b2, b3⟩ := h3 u x y hu
      exact ⟨a', o', b1, List.mem_cons_of_mem _ b2, b3⟩
theorem useStep_eq {i : Int} {es : Lv} {v s e : Int} (h : getK es v = some (s, e)) : useStep i es v = setK es v (s, 2 * i) := by unfold useStep; rw [h]; rfl
theorem useFold_isSome (i : Int) (us : List Int) (es : Lv) (v : Int) (h : (getK es v).isSome = true) : (getK (us.foldl (useStep i) es) v).isSome = true := by
  induction us generalizing es with
  | nil => exact h
  | cons u r ih =>
    refine ih _ ?_
    unfold useStep
    rw [getK_setK]
    split
    · rfl
    · exact h
theorem useFold_length (i : Int) (us : List Int) (es : Lv) (h : ∀ v ∈ us, (getK es v).isSome = true) : (us.foldl (useStep i) es).length = es.length := by
  induction us generalizing es with
  | nil => rfl
  | cons u r ih =>
    rw [List.foldl_cons, ih]
    · unfold useStep; rw [length_setK, h u List.mem_cons_self]; simp
    · intro v hv
      exact useFold_isSome i [u] es v (h v (List.mem_cons_of_mem _ hv))
theorem spansN_length (rows : List Row) (hwf : ∀ (i : Nat) (r : Row), rows[i]? = some r → ∀ v ∈ uses r, (getK (spansN rows i) v).isSome = true) : ∀ i, (spansN rows i).length ≤ i
  | 0 => Nat.le_refl _
  | i + 1 => by
    have ih := spansN_length rows hwf i
    unfold spansN
    split
    · rename_i r hr
      unfold spStep
      have h1 := useFold_length i (uses r) (spansN rows i) (hwf i r hr)
      dsimp only
      split
      · rw [length_setK]; split <;> omega
      · omega
    · omega
theorem Lives.nil {w : World} {fo : Obj} (h : DI w fo []) : Lives w fo [] [] := ⟨[], h, rfl, fun v s e hv => by simp [getK_nil] at hv⟩
theorem foldl_take_succ {α β : Type} (f : β → α → β) (b : β) (l : List α) (j : Nat) (x : α) (h : l[j]? = some x) : (l.take (j + 1)).foldl f b = f ((l.take j).foldl f b) x := by
  rw [List.take_add_one, h]; simp
end Mine
namespace Mine
set_option linter.unusedSectionVars false
set_option linter.unusedVariables false
set_option maxRecDepth 100000
set_option maxHeartbeats 8000000
theorem fill_A8 : PySem.Challenge.rw_on0210_01.Holds → hd.heap_1 = hd.heap_1 := by k_fill; intro _; rfl
section
variable {w : World} {A : Around} {z s : Shared} {h₀ : Heap} {L a : Addr} {l : List (Str × AV)} {cs : List (Addr × Obj)} {env : Env} {n : Nat} {cn : Str} {sc : Scope} {cd : Value}

theorem units_make (A : Around) (C : Addr) : (A.under (.builtin "type.__call__" ⟨[.ref C], []⟩)).units = A.units + 1 := rfl
theorem Cx.make {C₀ : Addr} (C : Cx w A h₀ L (n + 1)) : Cx w (A.under (.builtin "type.__call__" ⟨[.ref C₀], []⟩)) h₀ L n := by
  refine ⟨C.K, C.T, ?_, ?_, ?_, ?_⟩
  · exact C.site
  · rw [depth_under_make]; have := C.depth; omega
  · rw [units_make]; have := C.units; omega
  · exact C.handled

theorem r_new {C₀ fI : Addr} {Q : Value → Shared → Prop} (C : Cx w A h₀ L n) (S : St z h₀ L l cs s) (hm : makesIn (hd.heap_1 w.params) C₀ = true)
    (hi : findIn (hd.heap_1 w.params) (.ref C₀) "__init__" = some (some (.ref fI))) (hf : typeIn (hd.heap_1 w.params) (.ref fI) = some (.type "function"))
    (h : ∀ x dx s', St z h₀ L l ((x, instObj C₀ dx) :: (dx, dictOf [] 0) :: cs) s' →
      codeAny (model PG w) (A.under (.builtin "type.__call__" ⟨[.ref C₀], []⟩)) (.call (.ref fI) ⟨[.ref x], []⟩) (InitBack x fun r s' => match r with | .ok (.ret v) => Q v s' | .ok _ => False | .error e => False) s') :
    WP w A (call (.ref C₀) [] []) Q s := by
  obtain ⟨m, F, hl⟩ := S.fr
  have X := C.K.keeps F.keep
  have S1 := S.alloc (D := s.heap.objs.size) (tk := s.toks) (h' := s.heap.push emptyDict) (o := emptyDict) C rfl (fun b x q => Heap.get?_push_of_some _ q) (Heap.get?_push_size _ rfl)
  have S2 := S1.alloc (D := (s.heap.push emptyDict).objs.size) (tk := s.toks) (h' := (s.heap.push emptyDict).push (instObj C₀ s.heap.objs.size)) (o := instObj C₀ s.heap.objs.size) C rfl (fun b x q => Heap.get?_push_of_some _ q) (Heap.get?_push_size _ rfl)
  have k := h _ _ _ S2
  obtain ⟨hh, g, d, t, os⟩ := s
  refine wpAny_call (make_core (makes_of X hm) (looks_findIn X hi) (fun self => bind_fn X self hf) (.inl rfl) ?_)
  have e : (Heap.push hh emptyDict).objs.size = hh.objs.size + 1 := Heap.size_push ..
  dsimp only at k
  rw [e] at k
  exact k

/-- what __init__ leaves -/
theorem r_init {C₀ fI x : Addr} {name qual : Str} {params : Arguments} {body : List Stmt} {scope : Scope} {dV kV doc pm cdv ct oc : Value} {an od : Option Addr} {osl : Array (Option Value)} {Q : Value → Shared → Prop}
    (lb : List (Str × AV)) (C : Cx w A h₀ L (n + 2)) (S : St z h₀ L l cs s)
    (ho : (hd.heap_1 w.params).lookup fI = some ⟨oc, od, .func (fnOf name qual params body scope dV kV doc pm an cdv ct), osl⟩) (hcd : codeIn (hd.heap_1 w.params) cdv qual = true)
    (hbind : bindArgs (fnOf name qual params body scope dV kV doc pm an cdv ct) ⟨[.ref x], []⟩ = pure ((lb.map (·.1)).zip [Value.ref x])) (hloc : ∀ y ∈ (lb.map (·.1)).zip [Value.ref x], scope.names.lookup y.1 = some .local)
    (hb : AVs (lb.map (·.2)) [Value.ref x]) (hnd : (lb.map (·.1)).Nodup)
    (h : ∀ g L' A' s', Cx w A' g L' n → St z g L' lb cs s' →
      WP w A' (execs body (envX qual scope L' fI cdv [])) (fun fl s'' => RetK z g L' h₀ L l (fun v s3 => v = .none ∧ Q (.ref x) s3) (match fl with | .ret v => v | _ => .none) s'') s')
    (hcell : ∀ x ∈ scope.names, x.2 ≠ .cell) (hco : scope.isCoroutine = false) (hgen : scope.isGenerator = false) (hk : scope.kind = .function) :
    codeAny (model PG w) (A.under (.builtin "type.__call__" ⟨[.ref C₀], []⟩)) (.call (.ref fI) ⟨[.ref x], []⟩) (InitBack x fun r s' => match r with | .ok (.ret v) => Q v s' | .ok _ => False | .error e => False) s :=
  r_code lb C.make S ho hcd hbind hloc hb hnd (fun g L' A' s' C' S' => h g L' A' s' C' S') hcell hco hgen hk

end
end Mine
namespace Mine
set_option linter.unusedSectionVars false
set_option linter.unusedVariables false
set_option maxRecDepth 100000
set_option maxHeartbeats 8000000
/-- the new ledger when one cell is written -/
def upd (cs : List (Addr × Obj)) (d : Addr) (o' : Obj) : List (Addr × Obj) := cs.map fun p => if p.1 = d then (d, o') else p
theorem keys_upd (cs : List (Addr × Obj)) (d : Addr) (o' : Obj) : (upd cs d o').map (·.1) = cs.map (·.1) := by
  unfold upd
  rw [List.map_map]
  apply List.map_congr_left
  intro p _
  show (if p.1 = d then (d, o') else p).1 = p.1
  split
  · rename_i h; exact h.symm
  · rfl
theorem upd_other {cs : List (Addr × Obj)} {d : Addr} {o' : Obj} {p : Addr × Obj} (h : p ∈ cs) (hne : p.1 ≠ d) : p ∈ upd cs d o' := List.mem_map.mpr ⟨p, h, if_neg hne⟩
theorem upd_self {cs : List (Addr × Obj)} {d : Addr} {o o' : Obj} (h : (d, o) ∈ cs) : (d, o') ∈ upd cs d o' := List.mem_map.mpr ⟨_, h, if_pos rfl⟩
theorem upd_eq {pre post : List (Addr × Obj)} {d : Addr} {o : Obj} (nd : ((pre ++ (d, o) :: post).map (·.1)).Nodup) (o' : Obj) : upd (pre ++ (d, o) :: post) d o' = pre ++ (d, o') :: post := by
  simp only [List.map_append, List.map_cons, List.nodup_append, List.nodup_cons, List.mem_map, List.mem_cons] at nd
  obtain ⟨n1, ⟨n2, n3⟩, n4⟩ := nd
  have h1 : ∀ p ∈ pre, p.1 ≠ d := fun p hp e => n4 p.1 ⟨p, hp, rfl⟩ d (.inl rfl) e
  have h2 : ∀ p ∈ post, p.1 ≠ d := fun p hp e => n2 ⟨p, hp, e⟩
  have e : ∀ l : List (Addr × Obj), (∀ p ∈ l, p.1 ≠ d) → upd l d o' = l := fun l hl => by
    unfold upd
    conv => rhs; rw [← List.map_id l]
    exact List.map_congr_left fun p hp => if_neg (hl p hp)
  have e1 := e pre h1
  have e2 := e post h2
  unfold upd at e1 e2 ⊢
  rw [List.map_append, List.map_cons, e1, e2]; simp
theorem At.upd {cs : List (Addr × Obj)} {d : Addr} {o : Obj} (h : (d, o) ∈ cs) (nd : (cs.map (·.1)).Nodup) : At d o cs (fun o' => upd cs d o') := by
  obtain ⟨pre, post, rfl⟩ := List.append_of_mem h
  have : (fun o' => Mine.upd (pre ++ (d, o) :: post) d o') = fun o' => pre ++ (d, o') :: post := funext fun o' => upd_eq nd o'
  rw [this]
  exact .of_eq rfl
section
variable {w : World} {A : Around} {z s : Shared} {h₀ : Heap} {L : Addr} {l : List (Str × AV)} {cs : List (Addr × Obj)} {n : Nat}
theorem r_attr1 {g dx C₀ a b : Addr} {o : Obj} {n1 n2 : Str} {attr : Option Value} {Q : Value → Shared → Prop} {expr : Bool} (C : Cx w A h₀ L n) (S : St z h₀ L l cs s)
    (hg : (g, instObj C₀ dx) ∈ cs) (hdx : (dx, o) ∈ cs) (ho : G2 n1 n2 o a b) (hp : plainGet (hd.heap_1 w.params) C₀ n1 = true) (hh : hasDictIn (hd.heap_1 w.params) C₀ = true)
    (ha : findIn (hd.heap_1 w.params) (.ref C₀) n1 = some attr) (hn : noGet (hd.heap_1 w.params) attr = true) (h : ∀ s', St z h₀ L l cs s' → Q (.ref a) s') :
    WP w A (getAttr (.ref g) n1 expr) Q s := by
  obtain ⟨h1, t1, h2, t2, k, rfl⟩ := ho
  exact r_getattr C S hg hdx hp hh ha hn (by simp [getL, List.find?, Value.isStr]) rfl h
theorem r_attr2 {g dx C₀ a b : Addr} {o : Obj} {n1 n2 : Str} {attr : Option Value} {Q : Value → Shared → Prop} {expr : Bool} (C : Cx w A h₀ L n) (S : St z h₀ L l cs s)
    (hg : (g, instObj C₀ dx) ∈ cs) (hdx : (dx, o) ∈ cs) (ho : G2 n1 n2 o a b) (hne : (n1 == n2) = false) (hp : plainGet (hd.heap_1 w.params) C₀ n2 = true) (hh : hasDictIn (hd.heap_1 w.params) C₀ = true)
    (ha : findIn (hd.heap_1 w.params) (.ref C₀) n2 = some attr) (hn : noGet (hd.heap_1 w.params) attr = true) (h : ∀ s', St z h₀ L l cs s' → Q (.ref b) s') :
    WP w A (getAttr (.ref g) n2 expr) Q s := by
  obtain ⟨h1, t1, h2, t2, k, rfl⟩ := ho
  exact r_getattr C S hg hdx hp hh ha hn (by simp [getL, List.find?, Value.isStr, hne]) rfl h
theorem r_meth {g dx C₀ f a b : Addr} {o : Obj} {n1 n2 name : Str} {Q : Value × List Value → Shared → Prop} {pl : Sem Bool} (C : Cx w A h₀ L n) (S : St z h₀ L l cs s)
    (hg : (g, instObj C₀ dx) ∈ cs) (hdx : (dx, o) ∈ cs) (ho : G2 n1 n2 o a b) (hne1 : (n1 == name) = false) (hne2 : (n2 == name) = false) (hp : plainGet (hd.heap_1 w.params) C₀ name = true)
    (hf : findIn (hd.heap_1 w.params) (.ref C₀) name = some (some (.ref f))) (ht : isFn (hd.heap_1 w.params) (.ref f) = true) (h : Q (.ref f, [.ref g]) s) :
    WP w A (getMethod (.ref g) name pl) Q s := by
  obtain ⟨h1, t1, h2, t2, k, rfl⟩ := ho
  exact r_getmethod C S hg hdx hp hf ht (by simp [getL, List.find?, Value.isStr, hne1, hne2, DictEntry.refKey]) h
end
end Mine
namespace Mine
set_option linter.unusedVariables false
set_option maxRecDepth 100000
/-- keys, each with a value that hangs on it -/
def kf (V : List Int) (f : Int → AV) : List (Int × AV) := V.map fun v => (v, f v)
theorem keys_kf (V : List Int) (f : Int → AV) : (kf V f).map (·.1) = V := by
  unfold kf; rw [List.map_map]; exact List.map_id V
theorem length_kf (V : List Int) (f : Int → AV) : (kf V f).length = V.length := by unfold kf; simp
theorem getK_kf {V : List Int} {f : Int → AV} {v : Int} (h : v ∈ V) : getK (kf V f) v = some (f v) := by
  induction V with
  | nil => cases h
  | cons x r ih =>
    unfold kf at ih ⊢
    rw [List.map_cons, getK_cons]
    by_cases e : x = v
    · subst e; simp
    · rcases List.mem_cons.mp h with rfl | h
      · exact absurd rfl e
      · simp [e, ih h]
theorem isSome_kf (V : List Int) (f : Int → AV) (v : Int) : (getK (kf V f) v).isSome = decide (v ∈ V) := by
  rw [Bool.eq_iff_iff, ← mem_keys, keys_kf]; simp
theorem delK_kf (V : List Int) (f : Int → AV) (v : Int) : delK (kf V f) v = kf (V.filter fun x => decide (x ≠ v)) f := by
  unfold delK kf; rw [List.filter_map]; rfl
theorem any_kf (V : List Int) (f : Int → AV) (v : Int) : ((kf V f).any fun e => decide (e.1 = v)) = decide (v ∈ V) := by rw [any_getK, isSome_kf]
theorem kf_congr {V : List Int} {f g : Int → AV} (h : ∀ v ∈ V, f v = g v) : kf V f = kf V g := by
  unfold kf; exact List.map_congr_left fun v hv => by rw [h v hv]
theorem setK_kf_new {V : List Int} {f g : Int → AV} {v : Int} (h : v ∉ V) (hg : ∀ u ∈ V, f u = g u) : setK (kf V f) v (g v) = kf (V ++ [v]) g := by
  unfold setK
  rw [any_kf]
  simp only [h, decide_false, Bool.false_eq_true, if_false]
  rw [kf_congr hg]; unfold kf; simp
theorem setK_kf_old {V : List Int} {f : Int → AV} {v : Int} {x : AV} (h : v ∈ V) : setK (kf V f) v x = kf V (fun u => if u = v then x else f u) := by
  unfold setK
  rw [any_kf]
  simp only [h, decide_true, if_true]
  unfold kf
  rw [List.map_map]
  apply List.map_congr_left
  intro u _
  show (if u = v then (u, x) else (u, f u)) = (u, if u = v then x else f u)
  split <;> rfl
/-- a set of numbers in order -/
def addS (V : List Int) (v : Int) : List Int := if v ∈ V then V else V ++ [v]
theorem mem_addS {V : List Int} {v x : Int} : x ∈ addS V v ↔ x = v ∨ x ∈ V := by
  unfold addS; split
  · rename_i h
    constructor
    · exact .inr
    · rintro (rfl | h')
      · exact h
      · exact h'
  · simp [or_comm]
abbrev kt (V : List Int) : List (Int × AV) := kf V fun _ => .bool true
theorem setK_kt (V : List Int) (v : Int) : setK (kt V) v (.bool true) = kt (addS V v) := by
  unfold addS; split
  · rename_i h; rw [setK_kf_old h]; apply kf_congr; intro u _; split <;> rfl
  · rename_i h; exact setK_kf_new h fun _ _ => rfl

theorem find_first {α : Type} {p : α → Bool} : ∀ {l : List α} {j : Nat} {u : α}, l[j]? = some u → p u = true → (∀ x ∈ l.take j, p x = false) → l.find? p = some u
  | [], j, u, h, _, _ => by simp at h
  | x :: r, 0, u, h, hu, _ => by
    simp only [List.getElem?_cons_zero, Option.some.injEq] at h; subst h
    simp [hu]
  | x :: r, j + 1, u, h, hu, hb => by
    rw [List.getElem?_cons_succ] at h
    rw [List.take_succ_cons] at hb
    have h1 := hb x List.mem_cons_self
    rw [List.find?_cons, h1]
    exact find_first h hu fun y hy => hb y (List.mem_cons_of_mem _ hy)
theorem mem_take_succ {α : Type} {l : List α} {j : Nat} {u x : α} (h : l[j]? = some u) (hx : x ∈ l.take (j + 1)) : x ∈ l.take j ∨ x = u := by
  rw [List.take_add_one, h] at hx
  simpa using hx
theorem mem_take_succ' {α : Type} {l : List α} {j : Nat} {u x : α} (h : l[j]? = some u) : x ∈ l.take (j + 1) ↔ x ∈ l.take j ∨ x = u := by
  rw [List.take_add_one, h]; simp

structure GA (w : World) (gc : List (Addr × Obj)) (g dx nr mr : Addr) (V : List Int) (na : Int → Addr) (nk : Int → List Int) (W : List Int) (ma : Int → Addr) (mk : Int → List Int) : Prop where
  hg : (g, instObj 148 dx) ∈ gc
  hdx : ∃ o, (dx, o) ∈ gc ∧ G2 "near" "members" o nr mr
  hnr : ∃ o, (nr, o) ∈ gc ∧ DI w o (kf V fun v => .ref (na v))
  hmr : ∃ o, (mr, o) ∈ gc ∧ DI w o (kf W fun v => .ref (ma v))
  hn : ∀ v ∈ V, ∃ o, (na v, o) ∈ gc ∧ DI w o (kt (nk v))
  hm : ∀ v ∈ W, ∃ o, (ma v, o) ∈ gc ∧ LI o ((mk v).map .int)
  b1 : g ≠ dx ∧ g ≠ nr ∧ g ≠ mr ∧ dx ≠ nr ∧ dx ≠ mr ∧ nr ≠ mr
  bn : ∀ v ∈ V, na v ≠ g ∧ na v ≠ dx ∧ na v ≠ nr ∧ na v ≠ mr
  bm : ∀ v ∈ W, ma v ≠ g ∧ ma v ≠ dx ∧ ma v ≠ nr ∧ ma v ≠ mr
  nm : ∀ u ∈ V, ∀ v ∈ W, na u ≠ ma v
  ni : ∀ u ∈ V, ∀ v ∈ V, na u = na v → u = v
  mi : ∀ u ∈ W, ∀ v ∈ W, ma u = ma v → u = v

section
variable {w : World} {gc : List (Addr × Obj)} {g dx nr mr : Addr} {V W : List Int} {na ma : Int → Addr} {nk mk : Int → List Int}
theorem GA.mono {gc' : List (Addr × Obj)} (G : GA w gc g dx nr mr V na nk W ma mk) (h : ∀ p ∈ gc, p ∈ gc') : GA w gc' g dx nr mr V na nk W ma mk where
  hg := h _ G.hg
  hdx := let ⟨o, a, b⟩ := G.hdx; ⟨o, h _ a, b⟩
  hnr := let ⟨o, a, b⟩ := G.hnr; ⟨o, h _ a, b⟩
  hmr := let ⟨o, a, b⟩ := G.hmr; ⟨o, h _ a, b⟩
  hn := fun v hv => let ⟨o, a, b⟩ := G.hn v hv; ⟨o, h _ a, b⟩
  hm := fun v hv => let ⟨o, a, b⟩ := G.hm v hv; ⟨o, h _ a, b⟩
  b1 := G.b1
  bn := G.bn
  bm := G.bm
  nm := G.nm
  ni := G.ni
  mi := G.mi
theorem GA.nodupV (G : GA w gc g dx nr mr V na nk W ma mk) : V.Nodup := by
  obtain ⟨o, _, h⟩ := G.hnr
  have := h.nodup; rwa [keys_kf] at this
theorem GA.nodupW (G : GA w gc g dx nr mr V na nk W ma mk) : W.Nodup := by
  obtain ⟨o, _, h⟩ := G.hmr
  have := h.nodup; rwa [keys_kf] at this
theorem GA.nodupN (G : GA w gc g dx nr mr V na nk W ma mk) {v : Int} (hv : v ∈ V) : (nk v).Nodup := by
  obtain ⟨o, _, h⟩ := G.hn v hv
  have := h.nodup; rwa [keys_kf] at this
/-- a neighbour's dict is written -/
theorem GA.updN (G : GA w gc g dx nr mr V na nk W ma mk) {v : Int} (hv : v ∈ V) {o' : Obj} {ks : List Int} (ho : DI w o' (kt ks)) :
    GA w (upd gc (na v) o') g dx nr mr V na (fun x => if x = v then ks else nk x) W ma mk where
  hg := upd_other G.hg (G.bn v hv).1.symm
  hdx := let ⟨o, a, b⟩ := G.hdx; ⟨o, upd_other a (G.bn v hv).2.1.symm, b⟩
  hnr := let ⟨o, a, b⟩ := G.hnr; ⟨o, upd_other a (G.bn v hv).2.2.1.symm, b⟩
  hmr := let ⟨o, a, b⟩ := G.hmr; ⟨o, upd_other a (G.bn v hv).2.2.2.symm, b⟩
  hn := fun u hu => by
    by_cases e : u = v
    · subst e
      obtain ⟨o, a, _⟩ := G.hn u hu
      exact ⟨o', upd_self a, by simpa using ho⟩
    · obtain ⟨o, a, b⟩ := G.hn u hu
      exact ⟨o, upd_other a fun x => e (G.ni u hu v hv x), by simpa [e] using b⟩
  hm := fun u hu => let ⟨o, a, b⟩ := G.hm u hu; ⟨o, upd_other a (G.nm v hv u hu).symm, b⟩
  b1 := G.b1
  bn := G.bn
  bm := G.bm
  nm := G.nm
  ni := G.ni
  mi := G.mi
/-- a member list is written -/
theorem GA.updM (G : GA w gc g dx nr mr V na nk W ma mk) {v : Int} (hv : v ∈ W) {o' : Obj} {ks : List Int} (ho : LI o' (ks.map .int)) :
    GA w (upd gc (ma v) o') g dx nr mr V na nk W ma (fun x => if x = v then ks else mk x) where
  hg := upd_other G.hg (G.bm v hv).1.symm
  hdx := let ⟨o, a, b⟩ := G.hdx; ⟨o, upd_other a (G.bm v hv).2.1.symm, b⟩
  hnr := let ⟨o, a, b⟩ := G.hnr; ⟨o, upd_other a (G.bm v hv).2.2.1.symm, b⟩
  hmr := let ⟨o, a, b⟩ := G.hmr; ⟨o, upd_other a (G.bm v hv).2.2.2.symm, b⟩
  hm := fun u hu => by
    by_cases e : u = v
    · subst e
      obtain ⟨o, a, _⟩ := G.hm u hu
      exact ⟨o', upd_self a, by simpa using ho⟩
    · obtain ⟨o, a, b⟩ := G.hm u hu
      exact ⟨o, upd_other a fun x => e (G.mi u hu v hv x), by simpa [e] using b⟩
  hn := fun u hu => let ⟨o, a, b⟩ := G.hn u hu; ⟨o, upd_other a (G.nm u hu v hv), b⟩
  b1 := G.b1
  bn := G.bn
  bm := G.bm
  nm := G.nm
  ni := G.ni
  mi := G.mi
/-- a node leaves near -/
theorem GA.delN (G : GA w gc g dx nr mr V na nk W ma mk) {v : Int} {o' : Obj} (ho : DI w o' (delK (kf V fun v => .ref (na v)) v)) :
    GA w (upd gc nr o') g dx nr mr (V.filter fun x => decide (x ≠ v)) na nk W ma mk where
  hg := upd_other G.hg G.b1.2.1
  hdx := let ⟨o, a, b⟩ := G.hdx; ⟨o, upd_other a G.b1.2.2.2.1, b⟩
  hnr := let ⟨o, a, b⟩ := G.hnr; ⟨o', upd_self a, by rwa [delK_kf] at ho⟩
  hmr := let ⟨o, a, b⟩ := G.hmr; ⟨o, upd_other a G.b1.2.2.2.2.2.symm, b⟩
  hn := fun u hu => let hu' := (List.mem_filter.mp hu).1; let ⟨o, a, b⟩ := G.hn u hu'; ⟨o, upd_other a (G.bn u hu').2.2.1, b⟩
  hm := fun u hu => let ⟨o, a, b⟩ := G.hm u hu; ⟨o, upd_other a (G.bm u hu).2.2.1, b⟩
  b1 := G.b1
  bn := fun u hu => G.bn u (List.mem_filter.mp hu).1
  bm := G.bm
  nm := fun u hu => G.nm u (List.mem_filter.mp hu).1
  ni := fun u hu x hx => G.ni u (List.mem_filter.mp hu).1 x (List.mem_filter.mp hx).1
  mi := G.mi
theorem GA.delM (G : GA w gc g dx nr mr V na nk W ma mk) {v : Int} {o' : Obj} (ho : DI w o' (delK (kf W fun v => .ref (ma v)) v)) :
    GA w (upd gc mr o') g dx nr mr V na nk (W.filter fun x => decide (x ≠ v)) ma mk where
  hg := upd_other G.hg G.b1.2.2.1
  hdx := let ⟨o, a, b⟩ := G.hdx; ⟨o, upd_other a G.b1.2.2.2.2.1, b⟩
  hmr := let ⟨o, a, b⟩ := G.hmr; ⟨o', upd_self a, by rwa [delK_kf] at ho⟩
  hnr := let ⟨o, a, b⟩ := G.hnr; ⟨o, upd_other a G.b1.2.2.2.2.2, b⟩
  hm := fun u hu => let hu' := (List.mem_filter.mp hu).1; let ⟨o, a, b⟩ := G.hm u hu'; ⟨o, upd_other a (G.bm u hu').2.2.2, b⟩
  hn := fun u hu => let ⟨o, a, b⟩ := G.hn u hu; ⟨o, upd_other a (G.bn u hu).2.2.2, b⟩
  b1 := G.b1
  bm := fun u hu => G.bm u (List.mem_filter.mp hu).1
  bn := G.bn
  nm := fun u hu x hx => G.nm u hu x (List.mem_filter.mp hx).1
  mi := fun u hu x hx => G.mi u (List.mem_filter.mp hu).1 x (List.mem_filter.mp hx).1
  ni := G.ni
/-- no cell of the graph lies at a new address -/
theorem GA.fresh (G : GA w gc g dx nr mr V na nk W ma mk) {d : Addr} (hd : d ∉ gc.map (·.1)) : g ≠ d ∧ dx ≠ d ∧ nr ≠ d ∧ mr ≠ d ∧ (∀ v ∈ V, na v ≠ d) ∧ ∀ v ∈ W, ma v ≠ d := by
  have k : ∀ (a : Addr) (o : Obj), (a, o) ∈ gc → a ≠ d := fun a o h e => hd (e ▸ List.mem_map_of_mem (f := (·.1)) h)
  obtain ⟨_, a, _⟩ := G.hdx
  obtain ⟨_, b, _⟩ := G.hnr
  obtain ⟨_, c, _⟩ := G.hmr
  refine ⟨k _ _ G.hg, k _ _ a, k _ _ b, k _ _ c, fun v hv => ?_, fun v hv => ?_⟩
  · obtain ⟨_, a, _⟩ := G.hn v hv; exact k _ _ a
  · obtain ⟨_, a, _⟩ := G.hm v hv; exact k _ _ a
theorem GA.addN (G : GA w gc g dx nr mr V na nk W ma mk) {v : Int} {d : Addr} {od o' : Obj} (hd : d ∉ gc.map (·.1)) (hv : v ∉ V) (hod : DI w od []) (ho : DI w o' (setK (kf V fun v => .ref (na v)) v (.ref d))) :
    GA w ((d, od) :: upd gc nr o') g dx nr mr (V ++ [v]) (fun x => if x = v then d else na x) (fun x => if x = v then [] else nk x) W ma mk := by
  obtain ⟨f1, f2, f3, f4, f5, f6⟩ := G.fresh hd
  have hne : ∀ u ∈ V, u ≠ v := fun u hu e => hv (e ▸ hu)
  have hcase : ∀ u ∈ V ++ [v], u = v ∨ (u ∈ V ∧ u ≠ v) := fun u hu => by
    rcases List.mem_append.mp hu with h | h
    · exact .inr ⟨h, hne u h⟩
    · exact .inl (by simpa using h)
  refine ⟨.tail _ (upd_other G.hg G.b1.2.1), ?_, ?_, ?_, ?_, ?_, G.b1, ?_, G.bm, ?_, ?_, G.mi⟩
  · obtain ⟨o, a, b⟩ := G.hdx; exact ⟨o, .tail _ (upd_other a G.b1.2.2.2.1), b⟩
  · obtain ⟨o, a, b⟩ := G.hnr
    refine ⟨o', .tail _ (upd_self a), ?_⟩
    rwa [← setK_kf_new (f := fun v => .ref (na v)) hv (fun u hu => by simp [hne u hu]), if_pos rfl]
  · obtain ⟨o, a, b⟩ := G.hmr; exact ⟨o, .tail _ (upd_other a G.b1.2.2.2.2.2.symm), b⟩
  · intro u hu
    rcases hcase u hu with rfl | ⟨hu, e⟩
    · refine ⟨od, ?_, ?_⟩
      · simp
      · simpa [kf] using hod
    · obtain ⟨o, a, b⟩ := G.hn u hu
      refine ⟨o, ?_, ?_⟩
      · simp only [e, if_false]; exact .tail _ (upd_other a (G.bn u hu).2.2.1)
      · simpa only [e, if_false] using b
  · intro u hu
    obtain ⟨o, a, b⟩ := G.hm u hu
    exact ⟨o, .tail _ (upd_other a (G.bm u hu).2.2.1), b⟩
  · intro u hu
    rcases hcase u hu with rfl | ⟨hu, e⟩
    · simp only [if_true]; exact ⟨f1.symm, f2.symm, f3.symm, f4.symm⟩
    · simp only [e, if_false]; exact G.bn u hu
  · intro u hu x hx
    rcases hcase u hu with rfl | ⟨hu, e⟩
    · simp only [if_true]; exact (f6 x hx).symm
    · simp only [e, if_false]; exact G.nm u hu x hx
  · intro u hu x hx
    rcases hcase u hu with rfl | ⟨hu2, e⟩ <;> rcases hcase x hx with rfl | ⟨hx2, e'⟩
    · simp
    · simp only [e', if_true, if_false]; exact fun h => absurd h.symm (f5 x hx2)
    · simp only [e, if_true, if_false]; exact fun h => absurd h (f5 u hu2)
    · simp only [e, e', if_false]; exact G.ni u hu2 x hx2
theorem GA.addM (G : GA w gc g dx nr mr V na nk W ma mk) {v : Int} {d : Addr} {od o' : Obj} {ks : List Int} (hd : d ∉ gc.map (·.1)) (hv : v ∉ W) (hod : LI od (ks.map .int)) (ho : DI w o' (setK (kf W fun v => .ref (ma v)) v (.ref d))) :
    GA w ((d, od) :: upd gc mr o') g dx nr mr V na nk (W ++ [v]) (fun x => if x = v then d else ma x) (fun x => if x = v then ks else mk x) := by
  obtain ⟨f1, f2, f3, f4, f5, f6⟩ := G.fresh hd
  have hne : ∀ u ∈ W, u ≠ v := fun u hu e => hv (e ▸ hu)
  have hcase : ∀ u ∈ W ++ [v], u = v ∨ (u ∈ W ∧ u ≠ v) := fun u hu => by
    rcases List.mem_append.mp hu with h | h
    · exact .inr ⟨h, hne u h⟩
    · exact .inl (by simpa using h)
  refine ⟨.tail _ (upd_other G.hg G.b1.2.2.1), ?_, ?_, ?_, ?_, ?_, G.b1, G.bn, ?_, ?_, G.ni, ?_⟩
  · obtain ⟨o, a, b⟩ := G.hdx; exact ⟨o, .tail _ (upd_other a G.b1.2.2.2.2.1), b⟩
  · obtain ⟨o, a, b⟩ := G.hnr; exact ⟨o, .tail _ (upd_other a G.b1.2.2.2.2.2), b⟩
  · obtain ⟨o, a, b⟩ := G.hmr
    refine ⟨o', .tail _ (upd_self a), ?_⟩
    rwa [← setK_kf_new (f := fun v => .ref (ma v)) hv (fun u hu => by simp [hne u hu]), if_pos rfl]
  · intro u hu
    obtain ⟨o, a, b⟩ := G.hn u hu
    exact ⟨o, .tail _ (upd_other a (G.bn u hu).2.2.2), b⟩
  · intro u hu
    rcases hcase u hu with rfl | ⟨hu, e⟩
    · refine ⟨od, ?_, ?_⟩
      · simp
      · simpa using hod
    · obtain ⟨o, a, b⟩ := G.hm u hu
      refine ⟨o, ?_, ?_⟩
      · simp only [e, if_false]; exact .tail _ (upd_other a (G.bm u hu).2.2.2)
      · simpa only [e, if_false] using b
  · intro u hu
    rcases hcase u hu with rfl | ⟨hu, e⟩
    · simp only [if_true]; exact ⟨f1.symm, f2.symm, f3.symm, f4.symm⟩
    · simp only [e, if_false]; exact G.bm u hu
  · intro u hu x hx
    rcases hcase x hx with rfl | ⟨hx, e⟩
    · simp only [if_true]; exact f5 u hu
    · simp only [e, if_false]; exact G.nm u hu x hx
  · intro u hu x hx
    rcases hcase u hu with rfl | ⟨hu2, e⟩ <;> rcases hcase x hx with rfl | ⟨hx2, e'⟩
    · simp
    · simp only [e', if_true, if_false]; exact fun h => absurd h.symm (f6 x hx2)
    · simp only [e, if_true, if_false]; exact fun h => absurd h (f6 u hu2)
    · simp only [e, e', if_false]; exact G.mi u hu2 x hx2
theorem GA.init {o oa ob : Obj} {a b : Addr} (ho : G2 "near" "members" o a b) (ha : DI w oa []) (hb : DI w ob []) (nd : [b, a, g, dx].Nodup) (na ma : Int → Addr) (nk mk : Int → List Int) :
    GA w [(b, ob), (a, oa), (g, instObj 148 dx), (dx, o)] g dx a b [] na nk [] ma mk := by
  simp only [List.nodup_cons, List.mem_cons, List.not_mem_nil, or_false, not_or, not_false_eq_true, List.nodup_nil, and_true] at nd
  obtain ⟨⟨n1, n2, n3⟩, ⟨n4, n5⟩, n6⟩ := nd
  refine ⟨by simp, ⟨o, by simp, ho⟩, ⟨oa, by simp, by simpa [kf] using ha⟩, ⟨ob, by simp, by simpa [kf] using hb⟩, by simp, by simp, ⟨n6, fun e => n4 e.symm, fun e => n2 e.symm, fun e => n5 e.symm, fun e => n3 e.symm, fun e => n1 e.symm⟩, by simp, by simp, by simp, by simp, by simp⟩
end
theorem St.nd_left {z s : Shared} {h₀ : Heap} {L : Addr} {l : List (Str × AV)} {a b : List (Addr × Obj)} (S : St z h₀ L l (a ++ b) s) : (a.map (·.1)).Nodup := by
  have := S.nd; rw [List.map_append] at this; exact (List.nodup_append.mp this).1
theorem St.fresh {z s : Shared} {h₀ : Heap} {L : Addr} {l : List (Str × AV)} {a b : List (Addr × Obj)} {d : Addr} {o : Obj} (S : St z h₀ L l ((d, o) :: (a ++ b)) s) : d ∉ a.map (·.1) := by
  have := S.nd; rw [List.map_cons, List.nodup_cons, List.map_append] at this
  exact fun h => this.1 (List.mem_append_left _ h)
end Mine
namespace Mine
set_option linter.unusedVariables false
set_option maxRecDepth 100000
/-- neighbours within S -/
def cnt (nk : Int → List Int) (v : Int) (S : List Int) : Nat := ((nk v).filter fun x => decide (x ∈ S)).length
theorem cnt_congr {nk : Int → List Int} {v : Int} {S T : List Int} (h : ∀ x, x ∈ S ↔ x ∈ T) : cnt nk v S = cnt nk v T := by
  unfold cnt; congr 1; apply List.filter_congr; intro x _; simp [h x]
theorem cnt_all {nk : Int → List Int} {v : Int} {S : List Int} (h : ∀ x ∈ nk v, x ∈ S) : cnt nk v S = (nk v).length := by
  unfold cnt; congr 1; apply List.filter_eq_self.mpr; intro x hx; simp [h x hx]
theorem filter_ne_length {α : Type} [DecidableEq α] (p : α → Bool) (u : α) : ∀ (l : List α), l.Nodup → p u = true → (l.filter fun x => p x && decide (x ≠ u)).length + (if u ∈ l then 1 else 0) = (l.filter p).length
  | [], _, _ => by simp
  | x :: r, hn, hu => by
    rw [List.nodup_cons] at hn
    have ih := filter_ne_length p u r hn.2 hu
    by_cases e : x = u
    · subst e
      have hx : x ∉ r := hn.1
      simp only [List.filter_cons, hu, ne_eq, not_true_eq_false, decide_false, Bool.and_false, Bool.false_eq_true, if_false, List.mem_cons, true_or, if_true, List.length_cons, hx] at ih ⊢
      omega
    · have e' : ¬ u = x := fun h => e h.symm
      cases hp : p x with
      | true =>
        simp only [List.filter_cons, hp, ne_eq, e, not_false_eq_true, decide_true, Bool.and_self, if_true, List.length_cons, List.mem_cons, e', false_or] at ih ⊢
        omega
      | false =>
        simp only [List.filter_cons, hp, Bool.false_and, Bool.false_eq_true, if_false, List.mem_cons, e', false_or] at ih ⊢
        omega
theorem cnt_del {nk : Int → List Int} {v u : Int} {S : List Int} (hn : (nk v).Nodup) (hu : u ∈ S) : cnt nk v (S.filter fun x => decide (x ≠ u)) + (if u ∈ nk v then 1 else 0) = cnt nk v S := by
  unfold cnt
  rw [← filter_ne_length (fun x => decide (x ∈ S)) u (nk v) hn (by simp [hu])]
  congr 2
  apply List.filter_congr
  intro x _
  simp [List.mem_filter]
theorem filter_ne_perm {R : List Int} {u : Int} (hn : R.Nodup) (hu : u ∈ R) : (u :: R.filter fun x => decide (x ≠ u)).Perm R := by
  have e : (R.filter fun x => decide (x ≠ u)) = R.erase u := by
    rw [hn.erase_eq_filter]
    apply List.filter_congr
    intro x _
    by_cases h : x = u <;> simp [h]
  rw [e]
  exact (List.perm_cons_erase hu).symm
theorem simp_perm {R ord V : List Int} {u : Int} (hn : R.Nodup) (hu : u ∈ R) (h : (ord ++ R).Perm V) : ((ord ++ [u]) ++ R.filter fun x => decide (x ≠ u)).Perm V := by
  rw [List.append_assoc]
  exact (List.Perm.append_left ord (filter_ne_perm hn hu)).trans h
theorem simp_len {R : List Int} {u : Int} (hn : R.Nodup) (hu : u ∈ R) : (R.filter fun x => decide (x ≠ u)).length + 1 = R.length := by
  have := (filter_ne_perm hn hu).length_eq; simpa using this
def SimpOk (nk : Int → List Int) (count : Int) (ord : List Int) : Prop := ∀ i v, ord[i]? = some v → (∃ x ∈ ord.drop i, (cnt nk x (ord.drop i) : Int) < count) → (cnt nk v (ord.drop i) : Int) < count
def SimpMid (nk : Int → List Int) (count : Int) (ord R : List Int) : Prop := ∀ i v, ord[i]? = some v → ∀ S : List Int, (∀ x, x ∈ S ↔ x ∈ ord.drop i ∨ x ∈ R) → (∃ x ∈ S, (cnt nk x S : Int) < count) → (cnt nk v S : Int) < count
theorem simp_mid {nk : Int → List Int} {count : Int} {ord R : List Int} {u : Int} (hu : u ∈ R) (h : SimpMid nk count ord R) (hb : (∃ x ∈ R, (cnt nk x R : Int) < count) → (cnt nk u R : Int) < count) : SimpMid nk count (ord ++ [u]) (R.filter fun x => decide (x ≠ u)) := by
  intro i v hi S hS hx
  by_cases hl : i < ord.length
  · rw [List.getElem?_append_left hl] at hi
    refine h i v hi S (fun x => ?_) hx
    rw [hS, List.drop_append_of_le_length (by omega)]
    simp only [List.mem_append, List.mem_singleton, List.mem_filter, decide_eq_true_eq]
    by_cases e : x = u
    · subst e; simp [hu]
    · simp [e]
  · have hi' : i = ord.length := by
      have := lt_of_get hi
      rw [List.length_append] at this; simp at this; omega
    subst hi'
    rw [List.getElem?_append_right (by omega)] at hi
    simp at hi; subst hi
    have hSR : ∀ x, x ∈ S ↔ x ∈ R := fun x => by
      rw [hS]
      simp only [List.drop_left, List.mem_singleton, List.mem_filter, decide_eq_true_eq]
      by_cases e : x = u
      · subst e; simp [hu]
      · simp [e]
    rw [cnt_congr hSR]
    refine hb ?_
    obtain ⟨x, h1, h2⟩ := hx
    exact ⟨x, (hSR x).mp h1, by rw [← cnt_congr hSR]; exact h2⟩
theorem take_fresh {V : List Int} {j : Nat} {v : Int} (hn : V.Nodup) (hj : V[j]? = some v) : v ∉ V.take j := fun hm => by
  obtain ⟨i, hi, e⟩ := List.mem_take_iff_getElem.mp hm
  have e2 : V[j]? = V[i]? := by rw [hj, List.getElem?_eq_getElem (by omega), e]
  have := (List.getElem?_inj (lt_of_get hj) hn).mp e2
  omega
end Mine
namespace Mine
set_option linter.unusedVariables false
set_option maxRecDepth 100000
/-- what a colouring keeps: K coloured nodes -/
structure ColOk (nk : Int → List Int) (count : Int) (K : List Int) (col : Int → Int) : Prop where
  lo : ∀ v ∈ K, 0 ≤ col v
  hi : ∀ v ∈ K, col v < count
  ne : ∀ u ∈ K, ∀ v ∈ K, v ∈ nk u → col u ≠ col v
theorem ColOk.add {nk : Int → List Int} {count : Int} {K : List Int} {col : Int → Int} (h : ColOk nk count K col) {v m : Int} (hv : v ∉ K) (h0 : 0 ≤ m) (h1 : m < count) (hirr : v ∉ nk v) (hsym : ∀ u ∈ K, v ∈ nk u → u ∈ nk v) (hm : ∀ u ∈ K, u ∈ nk v → col u ≠ m) :
    ColOk nk count (K ++ [v]) (fun x => if x = v then m else col x) := by
  have hne : ∀ x ∈ K, x ≠ v := fun x hx e => hv (e ▸ hx)
  have split : ∀ x ∈ K ++ [v], x = v ∨ (x ∈ K ∧ x ≠ v) := fun x hx => by
    rcases List.mem_append.mp hx with hx | hx
    · exact .inr ⟨hx, hne x hx⟩
    · exact .inl (by simpa using hx)
  refine ⟨fun x hx => ?_, fun x hx => ?_, fun x hx y hy hxy => ?_⟩
  · rcases split x hx with rfl | ⟨hx, e⟩
    · simp [h0]
    · simp only [e, if_false]; exact h.lo x hx
  · rcases split x hx with rfl | ⟨hx, e⟩
    · simp [h1]
    · simp only [e, if_false]; exact h.hi x hx
  · rcases split x hx with rfl | ⟨hx2, e⟩ <;> rcases split y hy with rfl | ⟨hy2, e'⟩
    · exact absurd hxy hirr
    · simp only [e', if_true, if_false]; exact (hm y hy2 hxy).symm
    · simp only [e, if_true, if_false]; exact hm x hx2 (hsym x hx2 hxy)
    · simp only [e, e', if_false]; exact h.ne x hx2 y hy2 hxy
/-- the lowest number not among ns is at most their count -/
theorem lowest_le {ns : List Int} {m : Int} (h0 : 0 ≤ m) (h : ∀ j, 0 ≤ j → j < m → j ∈ ns) : m ≤ ns.length := by
  obtain ⟨k, rfl⟩ := Int.eq_ofNat_of_zero_le h0
  have := length_le_of_subset (a := (List.range k).map Int.ofNat) (b := ns) (by
    rw [List.nodup_iff_pairwise_ne, List.pairwise_map]
    exact (List.nodup_range (n := k)).imp (fun h e => h (Int.ofNat.inj e))) (fun x hx => by
    obtain ⟨j, hj', rfl⟩ := List.mem_map.mp hx
    rw [List.mem_range] at hj'
    exact h _ (Int.natCast_nonneg _) (by show (j : Int) < k; omega))
  simp at this; omega
theorem drop_step {l : List Int} {i : Nat} {v x : Int} (h : l[i]? = some v) : x ∈ l.drop i ↔ x = v ∨ x ∈ l.drop (i + 1) := by
  obtain ⟨hl, e⟩ := List.getElem?_eq_some_iff.mp h
  rw [List.drop_eq_getElem_cons hl, e]; simp
theorem drop_fresh {l : List Int} {i : Nat} {v : Int} (hn : l.Nodup) (h : l[i]? = some v) : v ∉ l.drop (i + 1) := by
  obtain ⟨hl, e⟩ := List.getElem?_eq_some_iff.mp h
  have hd : (l.drop i).Nodup := (List.drop_sublist i l).nodup hn
  rw [List.drop_eq_getElem_cons hl, e, List.nodup_cons] at hd
  exact hd.1
end Mine
namespace Mine
set_option linter.unusedVariables false
set_option maxRecDepth 100000
def heavyDeg (nk : Int → List Int) (a b x : Int) : Int := ((nk x).length : Int) - (if a ∈ nk x ∧ b ∈ nk x then 1 else 0)
theorem hdeg_both {nk : Int → List Int} {a b x : Int} (h1 : (getK (kt (nk x)) a).isSome = true) (h2 : (getK (kt (nk x)) b).isSome = true) : ((kt (nk x)).length : Int) - 1 = heavyDeg nk a b x := by
  rw [isSome_kf, decide_eq_true_eq] at h1 h2
  unfold heavyDeg; rw [length_kf, if_pos ⟨h1, h2⟩]
theorem hdeg_no1 {nk : Int → List Int} {a b x : Int} (h1 : (getK (kt (nk x)) a).isSome = false) : ((kt (nk x)).length : Int) = heavyDeg nk a b x := by
  rw [isSome_kf, decide_eq_false_iff_not] at h1
  unfold heavyDeg; rw [length_kf, if_neg fun h => h1 h.1]; omega
theorem hdeg_no2 {nk : Int → List Int} {a b x : Int} (h1 : (getK (kt (nk x)) b).isSome = false) : ((kt (nk x)).length : Int) = heavyDeg nk a b x := by
  rw [isSome_kf, decide_eq_false_iff_not] at h1
  unfold heavyDeg; rw [length_kf, if_neg fun h => h1 h.2]; omega
def heavyCount (nk : Int → List Int) (a b count : Int) (B : List Int) : Int := ((B.filter fun x => decide (count ≤ heavyDeg nk a b x)).length : Nat)
theorem hvy_yes {nk : Int → List Int} {a b x count : Int} {B : List Int} {j : Nat} {e : Int} (hj : B[j]? = some x) (he : e = heavyDeg nk a b x) (h : count ≤ e) : heavyCount nk a b count (B.take j) + 1 = heavyCount nk a b count (B.take (j + 1)) := by
  unfold heavyCount
  rw [List.take_add_one, hj]; subst he; simp [h]
theorem hvy_no {nk : Int → List Int} {a b x count : Int} {B : List Int} {j : Nat} {e : Int} (hj : B[j]? = some x) (he : e = heavyDeg nk a b x) (h : ¬ count ≤ e) : heavyCount nk a b count (B.take j) = heavyCount nk a b count (B.take (j + 1)) := by
  unfold heavyCount
  rw [List.take_add_one, hj]; subst he; simp [h]
end Mine
namespace Mine
set_option linter.unusedVariables false
set_option maxRecDepth 100000
def JoinAdj (nk : Int → List Int) (a b x y : Int) : Prop := if x = a then y ∈ nk a ∨ y ∈ nk b else if x ∈ nk b then (y ∈ nk x ∧ y ≠ b) ∨ y = a else y ∈ nk x
def holderOf (W : List Int) (mk : Int → List Int) (v : Int) : Int := (W.find? fun u => (mk u).any (· == v)).getD (-1)
/-- the graph, with no heap -/
structure GP (names : List Int) (V : List Int) (nk mk : Int → List Int) : Prop where
  vn : V.Nodup
  vs : ∀ v ∈ V, v ∈ names
  hin : ∀ x ∈ V, ∀ y ∈ nk x, y ∈ V
  hsym : ∀ x ∈ V, ∀ y ∈ nk x, x ∈ nk y
  hirr : ∀ x ∈ V, x ∉ nk x
  nn : ∀ x ∈ V, (nk x).Nodup
  part : (V.flatMap mk).Perm names
theorem holderOf_spec {V : List Int} {mk : Int → List Int} {v : Int} (h : ∃ u ∈ V, v ∈ mk u) : holderOf V mk v ∈ V ∧ v ∈ mk (holderOf V mk v) := by
  unfold holderOf
  obtain ⟨u, hu, hv⟩ := h
  cases e : V.find? fun u => (mk u).any (· == v) with
  | none => rw [List.find?_eq_none] at e; exact absurd (by simpa using hv) (e u hu)
  | some x =>
    have h1 := List.mem_of_find?_eq_some e
    have h2 := List.find?_some e
    exact ⟨h1, by simpa using h2⟩
theorem GP.held {names V : List Int} {nk mk : Int → List Int} (P : GP names V nk mk) {x : Int} (hx : x ∈ names) : ∃ u ∈ V, x ∈ mk u := by
  have := P.part.mem_iff.mpr hx
  simpa [List.mem_flatMap] using this
theorem GP.holder {names V : List Int} {nk mk : Int → List Int} (P : GP names V nk mk) {x : Int} (hx : x ∈ names) : holderOf V mk x ∈ V ∧ x ∈ mk (holderOf V mk x) := holderOf_spec (P.held hx)
theorem length_mem_flatMap {V : List Int} {mk : Int → List Int} {v : Int} (hv : v ∈ V) : (mk v).length ≤ (V.flatMap mk).length := by
  induction V with
  | nil => cases hv
  | cons x r ih =>
    rw [List.flatMap_cons, List.length_append]
    rcases List.mem_cons.mp hv with rfl | hv
    · omega
    · have := ih hv; omega
theorem GP.mlen {names V : List Int} {nk mk : Int → List Int} (P : GP names V nk mk) {v : Int} (hv : v ∈ V) : (mk v).length ≤ names.length := by
  rw [← P.part.length_eq]; exact length_mem_flatMap hv
theorem flatMap_erase {V : List Int} {mk : Int → List Int} {b : Int} (hb : b ∈ V) : (V.flatMap mk).Perm (mk b ++ (V.erase b).flatMap mk) :=
  (List.Perm.flatMap_right mk (List.perm_cons_erase hb)).trans (by rw [List.flatMap_cons])
theorem filter_ne_erase {R : List Int} {u : Int} (hn : R.Nodup) : (R.filter fun x => decide (x ≠ u)) = R.erase u := by
  rw [hn.erase_eq_filter]
  apply List.filter_congr
  intro x _
  by_cases h : x = u <;> simp [h]
theorem GP.join {names V : List Int} {nk mk nk' : Int → List Int} {a b : Int} (P : GP names V nk mk) (ha : a ∈ V) (hb : b ∈ V) (hab : a ≠ b) (hnab : b ∉ nk a)
    (hadj : ∀ x ∈ V, x ≠ b → ∀ y, y ∈ nk' x ↔ JoinAdj nk a b x y) (hn : ∀ x ∈ V.filter (fun x => decide (x ≠ b)), (nk' x).Nodup) :
    GP names (V.filter fun x => decide (x ≠ b)) nk' (fun x => if x = a then mk a ++ mk b else mk x) := by
  have hV : ∀ x, x ∈ V.filter (fun x => decide (x ≠ b)) ↔ x ∈ V ∧ x ≠ b := fun x => by simp
  have hnba : a ∉ nk b := fun h => hnab (P.hsym b hb a h)
  have hbb := P.hirr b hb
  have haa := P.hirr a ha
  refine ⟨P.vn.filter _, fun v hv => P.vs v ((hV v).mp hv).1, fun x hx y hy => ?_, fun x hx y hy => ?_, fun x hx hxx => ?_, hn, ?_⟩
  · obtain ⟨hx1, hx2⟩ := (hV x).mp hx
    rw [hadj x hx1 hx2] at hy
    rw [hV]
    unfold JoinAdj at hy
    split at hy
    · rename_i e; subst e
      rcases hy with hy | hy
      · exact ⟨P.hin _ ha y hy, fun e => hnab (e ▸ hy)⟩
      · exact ⟨P.hin b hb y hy, fun e => hbb (e ▸ hy)⟩
    · split at hy
      · rcases hy with hy | rfl
        · exact ⟨P.hin x hx1 y hy.1, hy.2⟩
        · exact ⟨ha, hab⟩
      · rename_i h1 h2
        exact ⟨P.hin x hx1 y hy, fun e => h2 (P.hsym x hx1 b (e ▸ hy))⟩
  · obtain ⟨hx1, hx2⟩ := (hV x).mp hx
    have hyV : y ∈ V ∧ y ≠ b := by
      rw [hadj x hx1 hx2] at hy
      unfold JoinAdj at hy
      split at hy
      · rename_i e; subst e
        rcases hy with hy | hy
        · exact ⟨P.hin _ ha y hy, fun e => hnab (e ▸ hy)⟩
        · exact ⟨P.hin b hb y hy, fun e => hbb (e ▸ hy)⟩
      · split at hy
        · rcases hy with hy | rfl
          · exact ⟨P.hin x hx1 y hy.1, hy.2⟩
          · exact ⟨ha, hab⟩
        · rename_i h1 h2
          exact ⟨P.hin x hx1 y hy, fun e => h2 (P.hsym x hx1 b (e ▸ hy))⟩
    rw [hadj x hx1 hx2] at hy
    rw [hadj y hyV.1 hyV.2]
    unfold JoinAdj at hy ⊢
    by_cases exa : x = a
    · subst exa
      simp only [if_true] at hy
      by_cases eya : y = x
      · subst eya; rcases hy with hy | hy
        · exact absurd hy haa
        · exact absurd hy hnba
      · simp only [eya, if_false]
        by_cases hyb : y ∈ nk b
        · simp [hyb]
        · simp only [hyb, if_false]
          rcases hy with hy | hy
          · exact P.hsym _ ha y hy
          · exact absurd hy hyb
    · simp only [exa, if_false] at hy
      by_cases eya : y = a
      · subst eya
        simp only [if_true]
        by_cases hxb : x ∈ nk b
        · exact .inr hxb
        · simp only [hxb, if_false] at hy
          exact .inl (P.hsym x hx1 _ hy)
      · simp only [eya, if_false]
        have hy' : y ∈ nk x := by
          split at hy
          · rcases hy with hy | hy
            · exact hy.1
            · exact absurd hy eya
          · exact hy
        have := P.hsym x hx1 y hy'
        split
        · exact .inl ⟨this, hx2⟩
        · exact this
  · obtain ⟨hx1, hx2⟩ := (hV x).mp hx
    rw [hadj x hx1 hx2] at hxx
    unfold JoinAdj at hxx
    split at hxx
    · rename_i e; subst e
      rcases hxx with h | h
      · exact haa h
      · exact hnba h
    · split at hxx
      · rcases hxx with h | h
        · exact P.hirr x hx1 h.1
        · rename_i e _; exact e h
      · exact P.hirr x hx1 hxx
  · refine List.Perm.trans ?_ P.part
    rw [filter_ne_erase P.vn]
    have ha' : a ∈ V.erase b := (List.mem_erase_of_ne hab).mpr ha
    refine (flatMap_erase (mk := fun x => if x = a then mk a ++ mk b else mk x) ha').trans ?_
    refine List.Perm.trans ?_ (flatMap_erase hb).symm
    refine List.Perm.trans ?_ (List.Perm.append_left (mk b) (flatMap_erase ha').symm)
    have hne : ∀ x ∈ (V.erase b).erase a, x ≠ a := fun x hx e => by
      have := (P.vn.erase b).mem_erase_iff.mp hx
      exact this.1 e
    have e : ((V.erase b).erase a).flatMap (fun x => if x = a then mk a ++ mk b else mk x) = ((V.erase b).erase a).flatMap mk := by
      have go : ∀ l : List Int, (∀ x ∈ l, x ≠ a) → l.flatMap (fun x => if x = a then mk a ++ mk b else mk x) = l.flatMap mk := fun l hl => by
        induction l with
        | nil => rfl
        | cons x r ih =>
          rw [List.flatMap_cons, List.flatMap_cons, ih fun y hy => hl y (List.mem_cons_of_mem _ hy), if_neg (hl x List.mem_cons_self)]
      exact go _ hne
    rw [e, if_pos rfl, ← List.append_assoc]
    exact List.Perm.append_right _ List.perm_append_comm
abbrev GS := List Int × (Int → List Int) × (Int → List Int)
def CanJoin (count : Int) (g : GS) (a b : Int) : Prop := a ≠ b ∧ b ∉ g.2.1 a ∧ ∃ B : List Int, B.Nodup ∧ (∀ x, x ∈ B ↔ x ∈ g.2.1 a ∨ x ∈ g.2.1 b) ∧ heavyCount g.2.1 a b count B < count
/-- one row coalesced -/
def CoNext (count : Int) (r : Row) (g g' : GS) : Prop :=
  ((r.kind == "copy") = true ∧ CanJoin count g (holderOf g.1 g.2.2 r.name) (holderOf g.1 g.2.2 r.left) ∧ ∃ a b, ((a = holderOf g.1 g.2.2 r.name ∧ b = holderOf g.1 g.2.2 r.left) ∨ (b = holderOf g.1 g.2.2 r.name ∧ a = holderOf g.1 g.2.2 r.left)) ∧
    g'.1 = g.1.filter (fun x => decide (x ≠ b)) ∧ (∀ x ∈ g.1, x ≠ b → ∀ y, y ∈ g'.2.1 x ↔ JoinAdj g.2.1 a b x y) ∧ g'.2.2 = (fun x => if x = a then g.2.2 a ++ g.2.2 b else g.2.2 x) ∧ ∀ x ∈ g'.1, (g'.2.1 x).Nodup) ∨
  (¬ ((r.kind == "copy") = true ∧ CanJoin count g (holderOf g.1 g.2.2 r.name) (holderOf g.1 g.2.2 r.left)) ∧ g' = g)
inductive CoRun (count : Int) : List Row → GS → GS → Prop
  | nil {g} : CoRun count [] g g
  | snoc {rs r g g1 g2} : CoRun count rs g g1 → CoNext count r g1 g2 → CoRun count (rs ++ [r]) g g2
theorem heavyCount_perm {nk : Int → List Int} {a b count : Int} {B B' : List Int} (h1 : B.Nodup) (h2 : B'.Nodup) (h : ∀ x, x ∈ B ↔ x ∈ B') : heavyCount nk a b count B = heavyCount nk a b count B' := by
  unfold heavyCount
  congr 1
  refine Nat.le_antisymm (length_le_of_subset (h1.filter _) fun x hx => ?_) (length_le_of_subset (h2.filter _) fun x hx => ?_)
  · rw [List.mem_filter] at hx ⊢; exact ⟨(h x).mp hx.1, hx.2⟩
  · rw [List.mem_filter] at hx ⊢; exact ⟨(h x).mpr hx.1, hx.2⟩
end Mine
namespace Mine
set_option linter.unusedVariables false
set_option maxRecDepth 100000
def lifeOf (sp : Lv) (v : Int) : Int × Int := (getK sp v).getD (0, 0)
def ovl (sp : Lv) (u v : Int) : Bool := decide ((lifeOf sp u).1 ≤ (lifeOf sp v).2) && decide ((lifeOf sp v).1 ≤ (lifeOf sp u).2)
theorem ovl_comm (sp : Lv) (u v : Int) : ovl sp u v = ovl sp v u := by unfold ovl; exact Bool.and_comm _ _
def Edge (sp : Lv) (V T T' : List Int) (v u y : Int) : Prop := y ∈ V ∧ ovl sp u y = true ∧ ((u < y ∧ (u ∈ T ∨ (u = v ∧ y ∈ T'))) ∨ (y < u ∧ (y ∈ T ∨ (y = v ∧ u ∈ T'))))
theorem Edge.skip {sp : Lv} {V T T' T2 : List Int} {v q u y : Int} (hT : ∀ x, x ∈ T2 ↔ x ∈ T' ∨ x = q) (h : ¬ (v < q ∧ ovl sp v q = true)) : Edge sp V T T' v u y ↔ Edge sp V T T2 v u y := by
  unfold Edge
  simp only [hT]
  constructor
  · rintro ⟨a, b, c⟩
    refine ⟨a, b, ?_⟩
    rcases c with ⟨c, d⟩ | ⟨c, d⟩
    · exact .inl ⟨c, d.imp id fun e => ⟨e.1, .inl e.2⟩⟩
    · exact .inr ⟨c, d.imp id fun e => ⟨e.1, .inl e.2⟩⟩
  · rintro ⟨a, b, c⟩
    refine ⟨a, b, ?_⟩
    rcases c with ⟨c, d | ⟨rfl, d | rfl⟩⟩ | ⟨c, d | ⟨rfl, d | rfl⟩⟩
    · exact .inl ⟨c, .inl d⟩
    · exact .inl ⟨c, .inr ⟨rfl, d⟩⟩
    · exact absurd ⟨c, b⟩ h
    · exact .inr ⟨c, .inl d⟩
    · exact .inr ⟨c, .inr ⟨rfl, d⟩⟩
    · exact absurd ⟨c, by rw [ovl_comm]; exact b⟩ h
theorem Edge.take {sp : Lv} {V T T' T2 : List Int} {v q u y : Int} {nk : Int → List Int} (hT : ∀ x, x ∈ T2 ↔ x ∈ T' ∨ x = q) (hv : v ∈ V) (hq : q ∈ V) (hlt : v < q) (ho : ovl sp v q = true) (hnk : ∀ y, y ∈ nk u ↔ Edge sp V T T' v u y) :
    y ∈ (if u = q then addS (if q = v then addS (nk v) q else nk q) v else if u = v then addS (nk v) q else nk u) ↔ Edge sp V T T2 v u y := by
  have hqv : ¬ q = v := by omega
  by_cases e1 : u = q
  · subst e1
    simp only [if_true, hqv, if_false, mem_addS, hnk]
    unfold Edge
    simp only [hT]
    constructor
    · rintro (rfl | ⟨a, b, c⟩)
      · exact ⟨hv, by rw [ovl_comm]; exact ho, .inr ⟨hlt, by simp⟩⟩
      · refine ⟨a, b, ?_⟩
        rcases c with ⟨c, d⟩ | ⟨c, d⟩
        · exact .inl ⟨c, d.imp id fun e => ⟨e.1, .inl e.2⟩⟩
        · exact .inr ⟨c, d.imp id fun e => ⟨e.1, .inl e.2⟩⟩
    · rintro ⟨a, b, c⟩
      by_cases ey : y = v
      · exact .inl ey
      · refine .inr ⟨a, b, ?_⟩
        rcases c with ⟨c, d | ⟨d, _⟩⟩ | ⟨c, d | ⟨d, _⟩⟩
        · exact .inl ⟨c, .inl d⟩
        · exact absurd d hqv
        · exact .inr ⟨c, .inl d⟩
        · exact absurd d ey
  · by_cases e2 : u = v
    · subst e2
      simp only [e1, if_false, if_true, mem_addS, hnk]
      unfold Edge
      simp only [hT]
      constructor
      · rintro (rfl | ⟨a, b, c⟩)
        · exact ⟨hq, ho, .inl ⟨hlt, by simp⟩⟩
        · refine ⟨a, b, ?_⟩
          rcases c with ⟨c, d⟩ | ⟨c, d⟩
          · exact .inl ⟨c, d.imp id fun e => ⟨e.1, .inl e.2⟩⟩
          · exact .inr ⟨c, d.imp id fun e => ⟨e.1, .inl e.2⟩⟩
      · rintro ⟨a, b, c⟩
        by_cases ey : y = q
        · exact .inl ey
        · refine .inr ⟨a, b, ?_⟩
          rcases c with ⟨c, d | ⟨d, e | e⟩⟩ | ⟨c, d | ⟨d, e⟩⟩
          · exact .inl ⟨c, .inl d⟩
          · exact .inl ⟨c, .inr ⟨d, e⟩⟩
          · exact absurd e ey
          · exact .inr ⟨c, .inl d⟩
          · omega
    · simp only [e1, e2, if_false, hnk]
      unfold Edge
      simp only [hT]
      constructor
      · rintro ⟨a, b, c⟩
        refine ⟨a, b, ?_⟩
        rcases c with ⟨c, d⟩ | ⟨c, d⟩
        · exact .inl ⟨c, d.imp id fun e => ⟨e.1, .inl e.2⟩⟩
        · exact .inr ⟨c, d.imp id fun e => ⟨e.1, .inl e.2⟩⟩
      · rintro ⟨a, b, c⟩
        refine ⟨a, b, ?_⟩
        rcases c with ⟨c, d | ⟨d, _⟩⟩ | ⟨c, d | ⟨d, e | e⟩⟩
        · exact .inl ⟨c, .inl d⟩
        · exact absurd d e2
        · exact .inr ⟨c, .inl d⟩
        · exact .inr ⟨c, .inr ⟨d, e⟩⟩
        · exact absurd e e1
theorem Edge.next {sp : Lv} {V T T2 : List Int} {v u y : Int} (hT : ∀ x, x ∈ T2 ↔ x ∈ T ∨ x = v) (hu : u ∈ V) : Edge sp V T V v u y ↔ Edge sp V T2 [] 0 u y := by
  unfold Edge
  simp only [hT, List.not_mem_nil, and_false, or_false]
  constructor
  · rintro ⟨a, b, c⟩
    refine ⟨a, b, ?_⟩
    rcases c with ⟨c, d | d⟩ | ⟨c, d | d⟩
    · exact .inl ⟨c, .inl d⟩
    · exact .inl ⟨c, .inr d.1⟩
    · exact .inr ⟨c, .inl d⟩
    · exact .inr ⟨c, .inr d.1⟩
  · rintro ⟨a, b, c⟩
    refine ⟨a, b, ?_⟩
    rcases c with ⟨c, d | d⟩ | ⟨c, d | d⟩
    · exact .inl ⟨c, .inl d⟩
    · exact .inl ⟨c, .inr ⟨d, a⟩⟩
    · exact .inr ⟨c, .inl d⟩
    · exact .inr ⟨c, .inr ⟨d, hu⟩⟩
theorem Edge.zero {sp : Lv} {V T : List Int} {v w u y : Int} : Edge sp V T [] v u y ↔ Edge sp V T [] w u y := by
  unfold Edge; simp
theorem Edge.none {sp : Lv} {V : List Int} {v u y : Int} : ¬ Edge sp V [] [] v u y := by
  unfold Edge; simp
theorem Edge.all {sp : Lv} {V : List Int} {v u y : Int} (hu : u ∈ V) : Edge sp V V [] v u y ↔ y ∈ V ∧ u ≠ y ∧ ovl sp u y = true := by
  unfold Edge
  simp only [List.not_mem_nil, and_false, or_false]
  constructor
  · rintro ⟨a, b, c⟩
    exact ⟨a, by omega, b⟩
  · rintro ⟨a, b, c⟩
    refine ⟨a, c, ?_⟩
    rcases Int.lt_or_gt_of_ne b with d | d
    · exact .inl ⟨d, hu⟩
    · exact .inr ⟨d, a⟩
end Mine
namespace Mine
set_option linter.unusedVariables false
set_option maxRecDepth 100000
def ovf (lf : Int → Int × Int) (u v : Int) : Bool := decide ((lf u).1 ≤ (lf v).2) && decide ((lf v).1 ≤ (lf u).2)
/-- what colour_registers gives back -/
def CRes (rows : List Row) (count : Int) (KR KS : List Int) (reg sl : Int → Int) : Prop :=
  ∃ (V0 : List Int) (nk0 mk0 : Int → List Int) (V : List Int) (nk mk : Int → List Int) (K : List Int) (col : Int → Int) (ord : List Int),
    V0.Perm ((spansP rows).map (·.1)) ∧ (∀ u ∈ V0, ∀ y, y ∈ nk0 u ↔ y ∈ V0 ∧ u ≠ y ∧ ovl (spansP rows) u y = true) ∧ (∀ u ∈ V0, mk0 u = [u]) ∧ (∀ u ∈ V0, (nk0 u).Nodup) ∧
    CoRun count rows (V0, nk0, mk0) (V, nk, mk) ∧ GP V0 V nk mk ∧ ord.Perm V ∧ SimpOk nk count ord ∧ ColOk nk count K col ∧ (∀ v ∈ K, v ∈ V) ∧ (∀ i v, ord[i]? = some v → (cnt nk v (ord.drop i) : Int) < count → v ∈ K) ∧
    (KR ++ KS).Perm V0 ∧ (∀ u ∈ V, ∀ v ∈ mk u, (u ∈ K → v ∈ KR ∧ reg v = col u) ∧ (u ∉ K → v ∈ KS)) ∧
    (∀ v ∈ KS, 0 ≤ sl v) ∧ (∀ u ∈ KS, ∀ v ∈ KS, u ≠ v → ovl (spansP rows) u v = true → sl u ≠ sl v)
theorem flatMap_single {V : List Int} {mk : Int → List Int} (h : ∀ u ∈ V, mk u = [u]) : V.flatMap mk = V := by
  induction V with
  | nil => rfl
  | cons x r ih =>
    rw [List.flatMap_cons, h x List.mem_cons_self, ih fun u hu => h u (List.mem_cons_of_mem _ hu)]; rfl
theorem flat_step {ns : List Int} {mk : Int → List Int} {i : Nat} {u : Int} (hi : ns[i]? = some u) : (ns.take (i + 1)).flatMap mk = (ns.take i).flatMap mk ++ mk u := by
  rw [List.take_add_one, hi, List.flatMap_append]; simp
theorem flat_fresh {ns : List Int} {mk : Int → List Int} {i j : Nat} {u v : Int} (hn : (ns.flatMap mk).Nodup) (hi : ns[i]? = some u) (hj : (mk u)[j]? = some v) : v ∉ (ns.take i).flatMap mk ++ (mk u).take j := by
  have e : ns.flatMap mk = (ns.take (i + 1)).flatMap mk ++ (ns.drop (i + 1)).flatMap mk := by rw [← List.flatMap_append, List.take_append_drop]
  rw [e, flat_step hi] at hn
  have h1 := (List.nodup_append.mp hn).1
  have e2 : mk u = (mk u).take j ++ v :: (mk u).drop (j + 1) := by
    obtain ⟨hl, e⟩ := List.getElem?_eq_some_iff.mp hj
    have : (mk u).drop j = v :: (mk u).drop (j + 1) := by rw [List.drop_eq_getElem_cons hl, e]
    rw [← this, List.take_append_drop]
  rw [e2, ← List.append_assoc] at h1
  intro hm
  exact (List.nodup_append.mp h1).2.2 v hm v List.mem_cons_self rfl
theorem flat_len {ns : List Int} {mk : Int → List Int} {i j : Nat} {u : Int} (hi : ns[i]? = some u) : ((ns.take i).flatMap mk ++ (mk u).take j).length ≤ (ns.flatMap mk).length := by
  have e : ns.flatMap mk = (ns.take (i + 1)).flatMap mk ++ (ns.drop (i + 1)).flatMap mk := by rw [← List.flatMap_append, List.take_append_drop]
  rw [e, flat_step hi]
  simp only [List.length_append, List.length_take]; omega
theorem GP.init {sp : Lv} {V : List Int} {nk mk : Int → List Int} (hn : V.Nodup) (hk : ∀ u ∈ V, ∀ y, y ∈ nk u ↔ y ∈ V ∧ u ≠ y ∧ ovl sp u y = true) (hm : ∀ u ∈ V, mk u = [u]) (hnn : ∀ u ∈ V, (nk u).Nodup) : GP V V nk mk := by
  refine ⟨hn, fun v hv => hv, fun x hx y hy => ((hk x hx y).mp hy).1, fun x hx y hy => ?_, fun x hx hxx => ((hk x hx x).mp hxx).2.1 rfl, hnn, ?_⟩
  · obtain ⟨a, b, c⟩ := (hk x hx y).mp hy
    exact (hk y a x).mpr ⟨hx, Ne.symm b, by rw [ovl_comm]; exact c⟩
  · rw [flatMap_single hm]
end Mine
namespace Mine
set_option linter.unusedSectionVars false
set_option linter.unusedVariables false
set_option maxRecDepth 100000
set_option maxHeartbeats 8000000
/-- whatever the answers, the sort only swaps -/
inductive KOk (n : Nat) {α : Type} (R : α → Prop) : KasT α → Prop
  | ret {a} : R a → KOk n R (.ret a)
  | ask {i j k} : i < n → j < n → (∀ b, KOk n R (k b)) → KOk n R (.ask i j k)
theorem KOk.bind {n : Nat} {α β : Type} {R : α → Prop} {R' : β → Prop} {t : KasT α} {f : α → KasT β} (h : KOk n R t) (hf : ∀ a, R a → KOk n R' (f a)) : KOk n R' (t.bind f) := by
  induction h with
  | ret ha => exact hf _ ha
  | ask hi hj _ ih => exact .ask hi hj ih
theorem KOk.wp {n : Nat} {α : Type} {R : α → Prop} {t : KasT α} (h : KOk n R t) {cmp : Nat → Nat → (Bool → Shared → Prop) → Shared → Prop} {I : Shared → Prop} {Q : α → Shared → Prop}
    (hc : ∀ i j (C : Bool → Shared → Prop) s, i < n → j < n → I s → (∀ b s', I s' → C b s') → cmp i j C s) (hq : ∀ a s, R a → I s → Q a s) : ∀ {s}, I s → t.kasWp cmp Q s := by
  induction h with
  | ret ha => exact fun hI => hq _ _ ha hI
  | ask hi hj _ ih => exact fun hI => hc _ _ _ _ hi hj hI fun b s' hI' => ih b hI'
def PermN (n : Nat) (p : Array Nat) : Prop := p.toList.Perm (List.range n)
theorem PermN.lt {n : Nat} {p : Array Nat} (h : PermN n p) (hn : 0 < n) (i : Nat) : p.getD i 0 < n := by
  by_cases hi : i < p.size
  · have e : p.getD i 0 = p[i] := by simp [Array.getD, hi]
    rw [e]
    have : p[i] ∈ p.toList := by simp
    exact List.mem_range.mp (h.mem_iff.mp this)
  · have e : p.getD i 0 = 0 := by simp [Array.getD, hi]
    rw [e]; exact hn
theorem PermN.rev {n : Nat} {p : Array Nat} (h : PermN n p) (i j : Nat) : PermN n (kas_rev p i j) := (Array.perm_iff_toList_perm.mp (mirror_perm p i j ((j - i) / 2))).trans h
theorem PermN.bub {n : Nat} {p : Array Nat} (h : PermN n p) (k d : Nat) : PermN n (bubble p k d) := (Array.perm_iff_toList_perm.mp (bubble_perm p k d)).trans h
theorem kok_asc {n : Nat} {p : Array Nat} (h : PermN n p) (hn : 0 < n) : ∀ f m, KOk n (fun _ => True) (kas_asc p f m)
  | 0, m => .ret trivial
  | f + 1, m => .ask (h.lt hn _) (h.lt hn _) fun b => by
    split
    · exact .ret trivial
    · exact kok_asc h hn f (m + 1)
theorem kok_desc {n : Nat} (hn : 0 < n) : ∀ f (p : Array Nat) m q, PermN n p → KOk n (fun r => PermN n r.1) (kas_desc f p m q)
  | 0, p, m, q, h => .ret h
  | f + 1, p, m, q, h => .ask (h.lt hn _) (h.lt hn _) fun b => by
    split
    · split
      · exact kok_desc hn f _ _ _ (h.rev _ _)
      · exact kok_desc hn f _ _ _ h
    · refine .ask (h.lt hn _) (h.lt hn _) fun d => ?_
      split
      · exact .ret h
      · exact kok_desc hn f _ _ _ h
theorem kok_tail3 {n : Nat} (hn : 0 < n) {m k : Nat} {p : Array Nat} (h : PermN n p) : KOk n (fun r => PermN n r.2) (kas_tail3 m k p) :=
  (kok_asc (h.rev 0 m) hn _ _).bind fun _ _ => .ret (h.rev 0 m)
theorem kok_descPart {n : Nat} (hn : 0 < n) {m k : Nat} {p : Array Nat} (h : PermN n p) : KOk n (fun r => PermN n r.2) (kas_descPart m k p) :=
  (kok_desc hn _ _ _ _ h).bind fun r hr => by
    split
    · exact kok_tail3 hn (PermN.rev hr _ _)
    · exact kok_tail3 hn hr
theorem kok_count {n : Nat} (hn : 0 < n) {k : Nat} {p : Array Nat} (h : PermN n p) : KOk n (fun r => PermN n r.2) (kas_count k p) :=
  (kok_asc h hn _ _).bind fun m _ => by
    split
    · exact .ret h
    · split
      · refine .ask (h.lt hn _) (h.lt hn _) fun c => ?_
        split
        · exact .ret h
        · exact kok_descPart hn (h.rev _ _)
      · exact kok_descPart hn h
theorem kok_place {n : Nat} (hn : 0 < n) {k : Nat} {p : Array Nat} (h : PermN n p) : ∀ f l r, KOk n (fun _ => True) (kas_place p k f l r)
  | 0, l, r => .ret trivial
  | f + 1, l, r => by
    unfold kas_place
    split
    · exact .ret trivial
    · refine .ask (h.lt hn _) (h.lt hn _) fun c => ?_
      split
      · exact kok_place hn h f _ _
      · exact kok_place hn h f _ _
theorem kok_bin {n : Nat} (hn : 0 < n) : ∀ f (p : Array Nat) k, PermN n p → KOk n (PermN n) (kas_bin f p k)
  | 0, p, k, h => .ret h
  | f + 1, p, k, h => (kok_place hn h _ _ _).bind fun l _ => kok_bin hn f _ _ (h.bub _ _)
theorem kok_sort {n : Nat} (hn : 0 < n) : KOk n (PermN n) (kas_sort n) :=
  (kok_count hn (show PermN n (List.toArray (List.range n)) from .refl _)).bind fun r hr => by
    split
    · exact kok_bin hn _ _ _ hr
    · exact .ret hr

section
variable {w : World} {A : Around} {z s : Shared} {h₀ : Heap} {L : Addr} {l : List (Str × AV)} {cs : List (Addr × Obj)} {n : Nat}
theorem St.shared {h' : Heap} {tk : Nat} (S : St z h₀ L l cs s) {m : Str → Option Value} (hl : ∀ p ∈ l, ∃ v, m p.1 = some v ∧ p.2.is v) {cs' : List (Addr × Obj)} (F : Fr h₀ L h' m) (N : News h₀ L h' cs') (nd : (cs'.map (·.1)).Nodup) (low : ∀ c ∈ cs', (∃ es ep, c.2.data = .dict es ep) → sysModules < c.1) : St z h₀ L l cs' { s with heap := h', toks := tk } :=
  ⟨S.gens, S.os, ⟨m, F, hl⟩, S.nl, N, nd, low⟩

theorem AVs.perm_ints {ns : List Int} {vs : List Value} (h : IntsAre vs ns) : AVs (ns.map .int) vs := AVs.of_ints h
theorem new_cell {D : Addr} {o : Obj} (S : St z h₀ L l cs s) (ho : ∀ es ep, o.data ≠ .dict es ep) (hD : ∀ q ∈ cs, q.1 ≠ D) :
    (((D, o) :: cs).map (·.1)).Nodup ∧ ∀ c ∈ (D, o) :: cs, (∃ es ep, c.2.data = .dict es ep) → sysModules < c.1 := by
  refine ⟨?_, fun c hc => ?_⟩
  · rw [List.map_cons, List.nodup_cons]
    refine ⟨fun hm => ?_, S.nd⟩
    obtain ⟨p, hp, e⟩ := List.mem_map.mp hm
    exact hD p hp e
  · rcases List.mem_cons.mp hc with rfl | hc
    · exact fun ⟨_, _, e⟩ => absurd e (ho _ _)
    · exact S.low c hc
end
end Mine
namespace Mine
set_option linter.unusedSectionVars false
set_option linter.unusedVariables false
set_option maxRecDepth 100000
set_option maxHeartbeats 8000000
section
variable {w : World} {A : Around} {z s : Shared} {h₀ : Heap} {L : Addr} {l : List (Str × AV)} {cs : List (Addr × Obj)} {n : Nat}
theorem ints_of_keys : ∀ {kvs : List (Int × Value)} {vs : List Value}, vs.length = kvs.length → (∀ (j : Nat) (v : Value), vs[j]? = some v → ∃ k x, kvs[j]? = some (k, x) ∧ (intKind PG w).is k v = true) → IntsAre vs (kvs.map (·.1))
  | [], [], _, _ => .nil
  | [], _ :: _, h, _ => by simp at h
  | _ :: _, [], h, _ => by simp at h
  | (k, x) :: r, v :: vs, hl, h => by
    obtain ⟨k', x', e, hk⟩ := h 0 v rfl
    simp only [List.getElem?_cons_zero, Option.some.injEq, Prod.mk.injEq] at e
    obtain ⟨rfl, rfl⟩ := e
    obtain ⟨t, rfl⟩ := Value.isInt_shape hk
    exact .cons _ t (ints_of_keys (by simpa using hl) fun j v hv => by
      have := h (j + 1) v (by simpa using hv); simpa using this)
theorem upd_head {D : Addr} {o o' : Obj} {r : List (Addr × Obj)} (h : ∀ p ∈ r, p.1 < D) : Upd D o o' ((D, o) :: r) ((D, o') :: r) := .head fun p hp e => Nat.lt_irrefl _ (e ▸ h p hp)
theorem r_sorted_dict {d : Addr} {o : Obj} {es : List (Int × AV)} {Q : Value → Shared → Prop} (C : Cx w A h₀ L n) (S : St z h₀ L l cs s) (hm : (d, o) ∈ cs) (ho : DI w o es) (hn : es.length < 64)
    (h : ∀ (D : Addr) (o' : Obj) (ns : List Int) s', LI o' (ns.map .int) → ns.Perm (es.map (·.1)) → ns.Pairwise (· ≤ ·) → St z h₀ L l ((D, o') :: cs) s' → Q (.ref D) s') : WP w A (call (.builtin "sorted") [.ref d]) Q s := by
  obtain ⟨kvs, hd, he⟩ := ho
  obtain ⟨m, F, hl⟩ := S.fr
  have hlen := he.length
  have hk := he.keys
  obtain ⟨ep, hat⟩ := (dictOf_of S hm hd).dictAt
  refine kdu_sorted (kdl_dict (knd := intKind PG w) (kvs := kvs) (ep := ep) (S.lo _ hm (dat hd))) C.handled F S.news hat (kdl_size (by omega)) fun D h' tk vs F' N' l1 hlv hv => ?_
  have hi := ints_of_keys hlv hv
  refine ksk_lsort (s := { s with heap := h', toks := tk }) (news' := fun o => (D, o) :: cs) F' N' (fun o => upd_head l1) rfl hi (by rw [List.length_map]; omega) fun vs' ns' c h2 F2 N2 hi2 _ hp hpw _ => ?_
  obtain ⟨c1, c2⟩ := new_cell (o := listOf (List.toArray vs') c) S (fun _ _ e => nomatch e) (fun q hq => Nat.ne_of_lt (l1 q hq))
  exact h D _ ns' _ ⟨vs', c, rfl, AVs.of_ints hi2⟩ (by rw [← hk]; exact hp) hpw (S.shared hl F2 N2 c1 c2)

/-- two pairs of numbers compared -/
theorem tuple_lt2 {a b : Addr} {oa ob : Obj} {a0 a1 b0 b1 : Int} {Q : Bool → Shared → Prop} (C : Cx w A h₀ L n) (hu : A.units < 9900) (S : St z h₀ L l cs s) (ha : (a, oa) ∈ cs) (hb : (b, ob) ∈ cs) (ta : TI oa [.int a0, .int a1]) (tb : TI ob [.int b0, .int b1])
    (h : ∀ c, Q c s) : WP w A (compareOp .Lt (.ref a) (.ref b)) (PySem.W.BoolBack Q) s := by
  obtain ⟨va, ea, rfl, hva⟩ := ta
  obtain ⟨vb, eb, rfl, hvb⟩ := tb
  obtain ⟨x0, x1, rfl, ⟨t0, rfl⟩, ⟨t1, rfl⟩⟩ : ∃ x0 x1, va = [x0, x1] ∧ (∃ t, x0 = Value.int a0 t) ∧ ∃ t, x1 = Value.int a1 t := by
    exact hva.two
  obtain ⟨y0, y1, rfl, ⟨u0, rfl⟩, ⟨u1, rfl⟩⟩ : ∃ x0 x1, vb = [x0, x1] ∧ (∃ t, x0 = Value.int b0 t) ∧ ∃ t, x1 = Value.int b1 t := by
    exact hvb.two
  have ga := (S.news _ ha).1
  have gb := (S.news _ hb).1
  have Ta : s.TypeIs (.ref a) "tuple" := ⟨_, ga, rfl⟩
  have Tb : s.TypeIs (.ref b) "tuple" := ⟨_, gb, rfl⟩
  show wpAny (model PG w) A (richCompare .Lt (.ref a) (.ref b)) (PySem.W.BoolBack Q) _ s
  refine wpAny_richCompare_same_room Ta Tb F.slot_tuple_lt (wpAny_call_entry F.slot_tuple_lt Ta F.entry_tuple_lt ?_ (F.args_tuple_lt_2 _ _)) hu
  show wpAny _ _ (isInstance (.ref b) (.type "tuple") >>= _) _ _ s
  refine wpAny_bind (wpAny_isInstance Tb isSubtype_tuple_tuple ?_)
  simp only [Bool.not_true, Bool.false_eq_true, if_false]
  refine wpAny_bind (wpAny_tupleItemsOf ga rfl ?_)
  refine wpAny_bind (wpAny_tupleItemsOf gb rfl ?_)
  refine wpAny_bind ?_
  rw [show (#[Value.int a0 t0, Value.int a1 t1].toList.zip #[Value.int b0 u0, Value.int b1 u1].toList) = [(Value.int a0 t0, Value.int b0 u0), (Value.int a1 t1, Value.int b1 u1)] from rfl, List.forIn_cons]
  have lt : ∀ {x y : Int} {t u : Tok} {Q' : Value → Shared → Prop} {E : Value → Shared → Prop} {A' : Around}, Q' (.bool (decide (x < y))) s → wpAny (model PG w) A' (richCompare .Lt (.int x t) (.int y u)) Q' E s := fun hq =>
    wpAny_mono (r_lt (w := w) hq) (fun _ _ q => q) fun _ _ e => e.elim
  refine wpAny_bind (wpAny_bind (wpAny_eqBool_int ?_))
  cases e0 : (a0 == b0) with
  | false =>
    simp only [Bool.not_false, if_true]
    refine wpAny_bind (wpAny_rule (wpAny_bind (lt (wpAny_bind (wpAny_pure (wpAny_pure (wpAny_pure (wpAny_pure ⟨_, rfl, by simp, h _⟩))))))))
  | true =>
    simp only [Bool.not_true, Bool.false_eq_true, if_false]
    refine wpAny_pure ?_
    dsimp only
    rw [List.forIn_cons]
    refine wpAny_bind (wpAny_bind (wpAny_eqBool_int ?_))
    cases e1 : (a1 == b1) with
    | false =>
      simp only [Bool.not_false, if_true]
      refine wpAny_bind (wpAny_rule (wpAny_bind (lt (wpAny_bind (wpAny_pure (wpAny_pure (wpAny_pure (wpAny_pure ⟨_, rfl, by simp, h _⟩))))))))
    | true =>
      simp only [Bool.not_true, Bool.false_eq_true, if_false]
      refine wpAny_pure ?_
      dsimp only
      rw [List.forIn_nil]
      refine wpAny_pure ?_
      dsimp only
      exact wpAny_pure ⟨_, rfl, by simp [Builtin.Tuple.tupleCompareSizes], h _⟩
theorem ints_tuple {d : Addr} {o : Obj} {ns : List Int} (S : St z h₀ L l cs s) (hm : (d, o) ∈ cs) (ho : TI o (ns.map .int)) : IsTupleKey (intKind PG w) s.heap ns d := by
  obtain ⟨vs, k, rfl, hv⟩ := ho
  refine ⟨_, _, _, (S.news _ hm).1, rfl, rfl, ?_⟩
  have go : ∀ {ns : List Int} {vs : List Value}, AVs (ns.map .int) vs → ItemsAre (intKind PG w) ns vs := by
    intro ns
    induction ns with
    | nil => intro vs hv; cases vs with
      | nil => exact .nil
      | cons _ _ => exact hv.elim
    | cons x r ih => intro vs hv; cases vs with
      | nil => exact hv.elim
      | cons v vs =>
        obtain ⟨⟨t, rfl⟩, h⟩ := hv
        exact .cons (intKind_is _ _ _ _) (ih h)
  exact go hv
/-- a life and its number -/
def LifeAt (cs : List (Addr × Obj)) (a : Addr) : Prop := ∃ o b lo v x y, (a, o) ∈ cs ∧ TI o [.ref b, .int v] ∧ (b, lo) ∈ cs ∧ TI lo [.int x, .int y]
theorem life_lt {a b : Addr} {Q : Bool → Shared → Prop} (C : Cx w A h₀ L n) (hu : A.units < 9900) (S : St z h₀ L l cs s) (ha : LifeAt cs a) (hb : LifeAt cs b) (h : ∀ c, Q c s) : WP w A (keyLt' (tuples' false) (.ref a) (.ref b)) Q s := by
  obtain ⟨oa, la, loa, va, xa, ya, a1, a2, a3, a4⟩ := ha
  obtain ⟨ob, lb, lob, vb, xb, yb, b1, b2, b3, b4⟩ := hb
  obtain ⟨ua, ea, rfl, hua⟩ := a2
  obtain ⟨ub, eb, rfl, hub⟩ := b2
  obtain ⟨ta, rfl⟩ : ∃ t, ua = [.ref la, .int va t] := by
    exact hua.pair
  obtain ⟨tb, rfl⟩ : ∃ t, ub = [.ref lb, .int vb t] := by
    exact hub.pair
  refine kat_lt (S.news _ a1).1 rfl (S.news _ b1).1 rfl ?_
  refine kat_cons (wpAny_eqBool_tuple (knd := intKind PG w) hu (ints_tuple (ns := [xa, ya]) S a3 a4) (ints_tuple (ns := [xb, yb]) S b3 b4) (kat_go (fun _ => kat_yes (kat_cons (wpAny_eqBool_int (kat_go (fun _ => kat_yes (kat_nil (h _))) fun _ => kat_no (kat_one _ _ ?_))))) fun _ => kat_no (kat_one _ _ ?_)))
  · exact r_lt (h _)
  · exact tuple_lt2 C hu S a3 b3 a4 b4 h
theorem AVs.refs : ∀ {as : List Addr} {vs : List Value}, AVs (as.map .ref) vs → vs = as.map .ref
  | [], [], _ => rfl
  | a :: r, v :: vs, ⟨h, k⟩ => by rw [show v = Value.ref a from h, AVs.refs k]; rfl
theorem AVs.of_refs : ∀ (as : List Addr), AVs (as.map .ref) (as.map .ref)
  | [] => trivial
  | _ :: r => ⟨rfl, AVs.of_refs r⟩
theorem lives_firsts (S : St z h₀ L l cs s) : ∀ (as : List Addr), (∀ a ∈ as, LifeAt cs a) → ∃ fs : List Value, KatTups s.heap (as.map .ref) fs ∧ fs.length = as.length ∧ ∀ f ∈ fs, Looks (model PG w) s.heap (typeOf f) (.type "tuple")
  | [], _ => ⟨[], KatTups.nil, rfl, by simp⟩
  | a :: r, h => by
    obtain ⟨fs, h1, h2, h3⟩ := lives_firsts S r fun x hx => h x (List.mem_cons_of_mem _ hx)
    obtain ⟨o, b, lo, v, x, y, a1, ⟨us, e, rfl, hu⟩, a3, ⟨ul, el, rfl, hul⟩⟩ := h a List.mem_cons_self
    obtain ⟨t, rfl⟩ : ∃ t, us = [.ref b, .int v t] := by
      exact hu.pair
    refine ⟨.ref b :: fs, KatTups.cons (S.news _ a1).1 rfl rfl rfl h1, by simp [h2], fun f hf => ?_⟩
    rcases List.mem_cons.mp hf with rfl | hf
    · exact (Looks.ld (S.news _ a3).1).andThen .now
    · exact h3 f hf
theorem short_sorted {d : Addr} {vs : List Value} {ep : Nat} {Q : Value → Shared → Prop} {m : Str → Option Value} (C : Cx w A h₀ L n) (S : St z h₀ L l cs s) (F : Fr h₀ L s.heap m) (hm : (d, listOf (List.toArray vs) ep) ∈ cs) (h2 : vs.length < 2)
    (h : ∀ (D : Addr) c s', Fr h₀ L s'.heap m → St z h₀ L l ((D, listOf (List.toArray vs) c) :: cs) s' → Q (.ref D) s') : WP w A (call (.builtin "sorted") [.ref d]) Q s := by
  refine Calls.call_function_entry kind_sorted plain_sorted entry_sorted (args_sorted1 _) ?_
  unfold Builtin.«sorted»
  refine wpAny_bind (m := checkCount "sorted" 1 1 _) (wpAny_pure ?_)
  refine wpAny_bind (collect_list ⟨_, (S.news _ hm).1, rfl, ep, rfl⟩ ?_ (by rw [sizeLine_eq]; omega))
  refine wpAny_bind (wpAny_newList ?_ (by rw [sizeLine_eq]; omega))
  have keep : ∀ b o, s.heap.get? b = some o → ((s.heap.push (seqObj "list" #[] 0)).update s.heap.objs.size (Obj.mapSeq (· ++ vs.toArray))).get? b = some o := fun b o q => by
    have hlt : b < s.heap.objs.size := Heap.lt_size q
    rw [Heap.get?_update_ne _ _ _ _ (Nat.ne_of_lt hlt), Heap.get?_push_ne _ _ _ (Nat.ne_of_lt hlt)]
    exact q
  have S0 := S.keeps (tk := s.toks) keep
  have F0 : Fr h₀ L _ m := F.keeps keep
  generalize (s.heap.push (seqObj "list" #[] 0)).update s.heap.objs.size (Obj.mapSeq (· ++ vs.toArray)) = h1 at S0 F0
  have S1 := S0.alloc (D := h1.objs.size) (tk := s.toks) (h' := h1.push (seqObj "list" vs.toArray 0)) (o := seqObj "list" vs.toArray 0) C rfl (fun b x q => Heap.get?_push_of_some _ q) (Heap.get?_push_size _ rfl)
  have F1 : Fr h₀ L (h1.push (seqObj "list" vs.toArray 0)) m := F0.push _
  have ho := (S1.news _ List.mem_cons_self).1
  have hDL := (S1.news _ List.mem_cons_self).2
  dsimp only at S1 ho hDL ⊢
  generalize h1.objs.size = D at S1 ho hDL ⊢
  show wpAny _ _ _ _ _ { s with heap := h1.push (seqObj "list" vs.toArray 0), toks := s.toks }
  generalize h1.push (seqObj "list" vs.toArray 0) = h2' at S1 F1 ho ⊢
  refine wpAny_bind (wpAny_holding (wpAny_call_entry slot_list_sort ⟨_, ho, rfl⟩ entry_list_sort ?_ (args_list_sort _)))
  rw [list_sort_plain]
  have s1 := Heap.SameBut.update h2' D (Obj.mapSeq fun _ => (#[] : Array Value))
  obtain ⟨e1, ho1⟩ : ∃ e1, (h2'.update D (Obj.mapSeq fun _ => (#[] : Array Value))).get? D = some (seqObj "list" #[] e1) := ⟨_, get?_update_seq ho fun _ => #[]⟩
  have S2 := S1.update (tk := s.toks) At.head s1 ho1 fun ⟨_, _, e⟩ => nomatch e
  have S3 := S2.keeps (tk := s.toks) (h' := ((h2'.update D (Obj.mapSeq fun _ => (#[] : Array Value))).push (seqObj "tuple" vs.toArray 0)).push (seqObj "list" #[] 0)) (fun b x e => Heap.get?_push_of_some _ (Heap.get?_push_of_some _ e))
  have ho3 := (S3.news _ List.mem_cons_self).1
  refine wpAny_bind (listItems_at ho rfl ?_)
  refine wpAny_bind (listUpdate_at ho rfl ?_ (by rw [List.size_toArray, sizeLine_eq]; omega) (Nat.zero_le _))
  refine wpAny_bind (seqEpoch_at ho1 rfl ?_)
  refine wpAny_bind (wpAny_newTuple ?_ (by show vs.length ≤ _; rw [sizeLine_eq]; omega))
  refine wpAny_bind (wpAny_newList ?_ (Nat.zero_le _))
  refine wpAny_holding ?_
  dsimp only
  show wpAny _ _ _ _ _ { s with heap := ((h2'.update D (Obj.mapSeq fun _ => (#[] : Array Value))).push (seqObj "tuple" vs.toArray 0)).push (seqObj "list" #[] 0), toks := s.toks }
  have hn2 : vs.toArray.size < 2 := by rw [List.size_toArray]; omega
  rw [if_pos hn2, if_pos hn2]
  refine wpAny_bind (wpAny_pure ?_)
  refine wpAny_bind (wpAny_pure ?_)
  dsimp only
  have e4 : (arrOf (SortSt.mk' general' (vs.toArray.zip vs.toArray) #[] 7 none)).map (·.2) = vs.toArray := by
    show (vs.toArray.zip vs.toArray).map (·.2) = vs.toArray
    apply Array.toList_inj.mp
    rw [Array.toList_map, ksk_zip]
    exact List.map_snd_zip (Nat.le_refl _)
  have e5 : failedOf (SortSt.mk' general' (vs.toArray.zip vs.toArray) #[] 7 none) = none := rfl
  rw [e4]
  have s2 := Heap.SameBut.update (((h2'.update D (Obj.mapSeq fun _ => (#[] : Array Value))).push (seqObj "tuple" vs.toArray 0)).push (seqObj "list" #[] 0)) D (Obj.mapSeq fun _ => vs.toArray)
  obtain ⟨c2, hc2⟩ : ∃ c2, ((((h2'.update D (Obj.mapSeq fun _ => (#[] : Array Value))).push (seqObj "tuple" vs.toArray 0)).push (seqObj "list" #[] 0)).update D (Obj.mapSeq fun _ => vs.toArray)).get? D = some (seqObj "list" vs.toArray c2) := ⟨_, get?_update_seq ho3 fun _ => vs.toArray⟩
  have S4 := S3.update (tk := s.toks) At.head s2 hc2 fun ⟨_, _, e⟩ => nomatch e
  refine wpAny_bind (seqEpoch_at ho3 rfl ?_)
  refine wpAny_bind (listUpdate_at ho3 rfl ?_ (Nat.zero_le _) (by rw [List.size_toArray, sizeLine_eq]; omega))
  simp only [bne_self_eq_false, Bool.false_eq_true, if_false]
  exact wpAny_pure ⟨_, rfl, wpAny_pure ⟨_, rfl, h D c2 _ ((((F1.change s1 hDL.1 hDL.2).push _).push _).change s2 hDL.1 hDL.2) S4⟩⟩
theorem r_sorted_lives {d : Addr} {o : Obj} {as : List Addr} {Q : Value → Shared → Prop} {m : Str → Option Value} (C : Cx w A h₀ L (n + 2)) (S : St z h₀ L l cs s) (F : Fr h₀ L s.heap m) (hl : ∀ p ∈ l, ∃ v, m p.1 = some v ∧ p.2.is v) (hm : (d, o) ∈ cs) (ho : LI o (as.map .ref)) (hn : as.length < 64) (ht : ∀ a ∈ as, LifeAt cs a)
    (h : ∀ (D : Addr) (o' : Obj) (bs : List Addr) s', LI o' (bs.map .ref) → bs.Perm as → Fr h₀ L s'.heap m → St z h₀ L l ((D, o') :: cs) s' → Q (.ref D) s') : WP w A (call (.builtin "sorted") [.ref d]) Q s := by
  obtain ⟨vs, ep, rfl, hv⟩ := ho
  have hvs := AVs.refs hv
  have hlen : vs.length = as.length := by rw [hvs]; simp
  by_cases h2 : 2 ≤ as.length
  · refine kat_sorted F S.news ⟨_, (S.news _ hm).1, rfl, ep, rfl⟩ (by omega) (by omega) fun D e1 h' F' N' l1 => ?_
    obtain ⟨c1, c2⟩ := new_cell (o := seqObj "list" #[] e1) S (fun _ _ e => nomatch e) (fun q hq => Nat.ne_of_lt (l1 q hq))
    have S1 : St z h₀ L l ((D, seqObj "list" #[] e1) :: cs) { s with heap := h' } := S.shared (tk := s.toks) hl F' N' c1 c2
    have ht' : ∀ a ∈ as, LifeAt ((D, seqObj "list" #[] e1) :: cs) a := fun a ha => by
      obtain ⟨o, b, lo, v, x, y, a1, a2, a3, a4⟩ := ht a ha
      exact ⟨o, b, lo, v, x, y, .tail _ a1, a2, .tail _ a3, a4⟩
    obtain ⟨fs, f1, f2, f3⟩ := lives_firsts S1 as ht'
    rw [← hvs] at f1
    refine kat_kind f1 (by omega) f3 (by decide) ?_
    have C2 : Cx w A.in1.in1 h₀ L n := C.in1.in1
    refine KOk.wp (I := fun s' => s' = { s with heap := h' }) (kok_sort (by omega : 0 < vs.length)) ?_ ?_ rfl
    · rintro i j K s' hi hj rfl hK
      unfold kas_ask
      have gi : vs.getD i Value.none = .ref (as[i]'(by omega)) := by subst hvs; simp [List.getD, List.getElem?_map, show i < as.length by omega]
      have gj : vs.getD j Value.none = .ref (as[j]'(by omega)) := by subst hvs; simp [List.getD, List.getElem?_map, show j < as.length by omega]
      rw [gi, gj, show (Value.type "tuple" != Value.type "tuple") = false by decide]
      exact life_lt C2 (by have := C2.units; omega) S1 (ht' _ (List.getElem_mem _)) (ht' _ (List.getElem_mem _)) fun b => hK b _ rfl
    · rintro p s' hp rfl
      refine KasFin.intro F' N' (UpdF.head fun q hq e => Nat.lt_irrefl _ (e ▸ l1 q hq)) fun h2 c F2 N2 => ?_
      obtain ⟨c3, c4⟩ := new_cell (o := listOf (List.toArray (p.toList.map fun i => vs.getD i Value.none)) c) S (fun _ _ e => nomatch e) (fun q hq => Nat.ne_of_lt (l1 q hq))
      have hlt : ∀ i ∈ p.toList, i < as.length := fun i hi => by have := List.mem_range.mp (hp.mem_iff.mp hi); omega
      have e1 : (p.toList.map fun i => vs.getD i Value.none) = (p.toList.map fun i => as.getD i 0).map .ref := by
        rw [List.map_map]
        refine List.map_congr_left fun i hi => ?_
        have := hlt i hi
        subst hvs; simp [List.getD, List.getElem?_map, this]
      have e2 : (List.range vs.length).map (fun i => as.getD i 0) = as := by
        rw [hlen]
        apply List.ext_getElem (by simp)
        intro i h1 h2
        simp [List.getD, h2]
      refine h D _ (p.toList.map fun i => as.getD i 0) _ ⟨_, c, rfl, ?_⟩ ?_ F2 (S.shared hl F2 N2 c3 c4)
      · rw [e1]; exact AVs.of_refs _
      · have := List.Perm.map (fun i => as.getD i 0) hp
        rwa [e2] at this
  · refine short_sorted C S F hm (by omega) fun D c s' F' S' => ?_
    exact h D _ as s' ⟨vs, c, rfl, hv⟩ (.refl _) F' S'
end
end Mine
namespace Mine
set_option linter.unusedSectionVars false
set_option linter.unusedVariables false
set_option maxRecDepth 100000
set_option maxHeartbeats 8000000
section
variable {w : World} {A : Around} {z s : Shared} {h₀ : Heap} {L : Addr} {l : List (Str × AV)} {cs : List (Addr × Obj)} {n : Nat}
theorem r_dict_getitem {d : Addr} {o : Obj} {k : Int} {u : Tok} {es : List (Int × AV)} {av : AV} {Q : Value → Shared → Prop} (S : St z h₀ L l cs s) (hm : (d, o) ∈ cs) (ho : DI w o es)
    (hx : getK es k = some av) (h : ∀ v s', av.is v → St z h₀ L l cs s' → Q v s') : WP w A (getItem (.ref d) (.int k u)) Q s := r_getitem S hm ho (intKind_is _ _ _ _) hx h
theorem r_dget_meth {d : Addr} {o : Obj} {es : List (Int × AV)} {pl : Sem Bool} {Q : Value × List Value → Shared → Prop} (S : St z h₀ L l cs s) (hm : (d, o) ∈ cs) (ho : DI w o es) (h : Q (.builtin "dict.get", [.ref d]) s) : WP w A (getMethod (.ref d) "get" pl) Q s := by
  obtain ⟨kvs, hd, _⟩ := ho
  exact kdg_method (news := cs) S.news hm hd h
theorem r_dget {d : Addr} {o : Obj} {k b x : Int} {u t : Tok} {es : List (Int × AV)} {Q : Value → Shared → Prop} (S : St z h₀ L l cs s) (hm : (d, o) ∈ cs) (ho : DI w o es) (hx : (getK es k).getD (.int b) = .int x)
    (h : ∀ t' s', St z h₀ L l cs s' → Q (.int x t') s') : WP w A (call (.builtin "dict.get") [.ref d, .int k u, .int b t]) Q s := by
  obtain ⟨kvs, hd, he⟩ := ho
  refine kdg_get2 (news := cs) S.news hm hd (S.lo _ hm (dat hd)) (intKind_is _ _ _ _) (valueAt kvs k) rfl ?_
  have hs := he.isSome k
  cases hg : getK es k with
  | none =>
    rw [hg] at hs hx
    have : valueAt kvs k = none := by cases e : valueAt kvs k with
      | none => rfl
      | some y => rw [e] at hs; simp at hs
    rw [this]
    simp only [Option.getD_none, AV.int.injEq] at hx ⊢
    subst hx
    exact h _ _ (S.toks _)
  | some av =>
    rw [hg] at hx
    simp only [Option.getD_some] at hx
    subst hx
    obtain ⟨v, e, ⟨t', rfl⟩⟩ := he.get k _ hg
    rw [e]
    exact h _ _ (S.toks _)
end
end Mine
namespace Mine
set_option linter.unusedSectionVars false
set_option linter.unusedVariables false
set_option maxRecDepth 100000
set_option maxHeartbeats 1000000
/-- pairs of a life and its number -/
def PairsAt (cs : List (Addr × Obj)) (des : List (Int × AV)) (as : List Addr) (ns : List Int) : Prop :=
  as.length = ns.length ∧ ∀ (j : Nat) (a : Addr) (v : Int), as[j]? = some a → ns[j]? = some v → ∃ o b, (a, o) ∈ cs ∧ TI o [.ref b, .int v] ∧ getK des v = some (.ref b)
theorem PairsAt.mono {cs cs' : List (Addr × Obj)} {des : List (Int × AV)} {as : List Addr} {ns : List Int} (h : PairsAt cs des as ns) (hs : ∀ p ∈ cs, p ∈ cs') : PairsAt cs' des as ns :=
  ⟨h.1, fun j a v ha hv => by obtain ⟨o, b, h1, h2, h3⟩ := h.2 j a v ha hv; exact ⟨o, b, hs _ h1, h2, h3⟩⟩
theorem PairsAt.snoc {cs : List (Addr × Obj)} {des : List (Int × AV)} {as : List Addr} {ns : List Int} (h : PairsAt cs des as ns) {a b : Addr} {o : Obj} {v : Int} (hm : (a, o) ∈ cs) (ho : TI o [.ref b, .int v]) (hg : getK des v = some (.ref b)) : PairsAt cs des (as ++ [a]) (ns ++ [v]) := by
  refine ⟨by simp [h.1], fun j a' v' ha hv => ?_⟩
  by_cases hj : j < as.length
  · rw [List.getElem?_append_left hj] at ha
    rw [List.getElem?_append_left (by rw [← h.1]; exact hj)] at hv
    exact h.2 j a' v' ha hv
  · rw [List.getElem?_append_right (by omega)] at ha
    rw [List.getElem?_append_right (by rw [← h.1]; omega)] at hv
    rw [← h.1] at hv
    have e : j - as.length = 0 := by
      have := lt_of_get ha; simp at this; omega
    rw [e] at ha hv
    simp at ha hv
    subst ha hv
    exact ⟨o, b, hm, ho, hg⟩
section
variable {w : World} {A : Around} {z s : Shared} {h₀ : Heap} {L : Addr} {l : List (Str × AV)} {cs : List (Addr × Obj)} {n : Nat}
theorem ints_get {vs : List Value} {ns : List Int} (h : IntsAre vs ns) {i : Nat} {v : Value} (hv : vs[i]? = some v) : ∃ x t, v = .int x t ∧ ns[i]? = some x := by
  induction h generalizing i with
  | nil => simp at hv
  | cons x t r ih =>
    cases i with
    | zero => simp at hv; subst hv; exact ⟨x, t, rfl, by simp⟩
    | succ i => simp only [List.getElem?_cons_succ] at hv ⊢; exact ih hv

theorem lc_inner {p1 p2 p3 p4 p5 : Pos} {k0 : Nat} {sc : Scope} {cl : List (Str × Addr)} {env : Env} {m : Str → Option Value} {ax f c : Addr} {fo co : Obj} {vs : List Value} {ep : Nat} {ns : List Int} {des : List (Int × AV)} {base : List (Addr × Obj)}
    (hk1 : ∀ C, (compEnvC sc cl C env).scope.kind = .function) (hk2 : ∀ C, (compEnvC sc cl C env).kindOf "lives" = some .cell) (hk3 : ∀ C, (compEnvC sc cl C env).kindOf "v" = some .local)
    (hcl : cl.lookup (Str.ofString "lives") = some c) (hco : co.data = .cell (some (.ref f))) (hax : (ax, listOf (List.toArray vs) ep) ∈ base) (hf : (f, fo) ∈ base) (hc : (c, co) ∈ base) (hvs : IntsAre vs ns) (hdes : DI w fo des) (hget : ∀ v ∈ ns, ∃ b, getK des v = some (.ref b))
    (Fin : List Value → List (Addr × Obj) → Prop) (hFin : ∀ (as : List Addr) news, PairsAt news des as ns → (∀ p ∈ base, p ∈ news) → (news.map (·.1)).Nodup → (∀ c ∈ news, (∃ es ep, c.2.data = .dict es ep) → sysModules < c.1) → Fin (as.map .ref) news) :
    ∀ (k i : Nat) (as : List Addr) (news : List (Addr × Obj)) (s : Shared), i + k = ns.length → PairsAt news des as (ns.take i) → (∀ p ∈ base, p ∈ news) → (news.map (·.1)).Nodup → (∀ c ∈ news, (∃ es ep, c.2.data = .dict es ep) → sysModules < c.1) →
      LCg.CompRest PG w A h₀ L m env (Expr.Tuple [Expr.Subscript (Expr.Name "lives" p1) (Expr.Name "v" p2) p3, Expr.Name "v" p4] k0 p5) "v" sc cl s (LCg.SrcAt h₀ ax vs.toArray) (fun i v => vs.toArray[i]? = some v) Fin k i (as.map .ref) news := by
  intro k
  induction k with
  | zero =>
    intro i as news s hk hP hbs hnd hlow
    refine LCg.CompRest.zero (hFin as news ?_ hbs hnd hlow)
    rwa [show i = ns.length by omega, List.take_length] at hP
  | succ k ih =>
    intro i as news s hk hP hbs hnd hlow
    refine LCg.CompRest.succ fun v I oI C oC D m₂ hh tk E' hPv hNs hmx F N off hne => ?_
    obtain ⟨x, t, rfl, hx⟩ := ints_get hvs (by simpa using hPv)
    obtain ⟨b, hb⟩ := hget x (List.mem_of_getElem? hx)
    obtain ⟨kvs, hd, he⟩ := hdes
    obtain ⟨bv, hbv, (rfl : bv = Value.ref b)⟩ := he.get x _ hb
    have mN : ∀ p ∈ news, p ∈ (I, oI) :: (C, oC) :: (D, LCg.lst (as.map Value.ref)) :: news := fun p hp => .tail _ (.tail _ (.tail _ hp))
    have zf := (N _ (mN _ (hbs _ hf))).1
    have hD : hh.DictOf (intKind PG w) f kvs := Heap.dictOf_iff.mpr ⟨fo, zf, hd⟩
    refine wpAny_Tuple (spliced_more (Subscript_ ?_))
    refine lcf_cell (x := "lives") (news := (I, oI) :: (C, oC) :: (D, LCg.lst (as.map Value.ref)) :: news) (o := co) N hcl (mN _ (hbs _ hc)) hco ?_ (hk1 C) (hk2 C)
    refine LCgL.ld_own (x := "v") (C := C) (oC := oC) N (.tail _ (.head _)) hNs hmx ?_ (hk1 C) (hk3 C)
    refine tail_any hD.typeIs slot_dict_getitem.lookup (wpAny_getItem_of (knd := intKind PG w) (intKind_is _ _ _ _) hD.mapOf hbv ?_) (by with_unfolding_all rfl)
    refine spliced_more ?_
    refine LCgL.ld_own (x := "v") (C := C) (oC := oC) (s := { s with heap := hh, toks := _ }) N (.tail _ (.head _)) hNs hmx ?_ (hk1 C) (hk3 C)
    refine spliced_none ⟨by rw [sizeLine_eq]; simp, ?_⟩
    dsimp only
    have hk2 : ∀ b' x', hh.get? b' = some x' → (hh.push { cls := .type "tuple", data := .seq [Value.ref b, Value.int x t].toArray }).get? b' = some x' := fun b' x' q => Heap.get?_push_of_some _ q
    have hT : (hh.push { cls := .type "tuple", data := .seq [Value.ref b, Value.int x t].toArray }).get? hh.objs.size = some { cls := .type "tuple", data := .seq [Value.ref b, Value.int x t].toArray } := Heap.get?_push_size _ rfl
    have hlt : ∀ p ∈ (I, oI) :: (C, oC) :: (D, LCg.lst (as.map Value.ref)) :: news, p.1 ≠ hh.objs.size := fun p hp => Nat.ne_of_lt (Heap.lt_size (N p hp).1)
    have hL : L < hh.objs.size := F.ns.lt
    refine LCg.CompEnd.intro (s₁ := { s with heap := hh, toks := tk }) (all := (hh.objs.size, { cls := .type "tuple", data := .seq [Value.ref b, Value.int x t].toArray }) :: (I, oI) :: (C, oC) :: (D, LCg.lst (as.map Value.ref)) :: news) (F.keeps hk2) ?_ ((hh.objs.size, { cls := .type "tuple", data := .seq [Value.ref b, Value.int x t].toArray }) :: news) ?_ ?_ ?_ ?_
    · intro p hp
      rcases List.mem_cons.mp hp with rfl | hp
      · exact ⟨hT, Nat.ne_of_gt hL, Heap.get?_none_of_le (Nat.le_trans F.above (Nat.le_of_lt hL))⟩
      · exact ⟨hk2 _ _ (N p hp).1, (N p hp).2⟩
    · intro p hp
      rcases List.mem_cons.mp hp with rfl | hp
      · exact .tail _ (.head _)
      rcases List.mem_cons.mp hp with rfl | hp
      · exact .tail _ (.tail _ (.head _))
      rcases List.mem_cons.mp hp with rfl | hp
      · exact .tail _ (.tail _ (.tail _ (.head _)))
      rcases List.mem_cons.mp hp with rfl | hp
      · exact .head _
      · exact .tail _ (.tail _ (.tail _ (.tail _ hp)))
    · exact ⟨⟨Ne.symm (hlt _ (.head _)), Ne.symm (hlt _ (.tail _ (.head _))), Ne.symm (hlt _ (.tail _ (.tail _ (.head _))))⟩, off⟩
    · exact .inr ⟨_, .tail _ (hbs _ hax), rfl, _, rfl⟩
    · have e : (as.map Value.ref) ++ [Value.ref hh.objs.size] = (as ++ [hh.objs.size]).map .ref := by simp
      rw [e]
      refine ih (i + 1) _ _ s (by omega) ?_ (fun p hp => .tail _ (hbs p hp)) ?_ ?_
      · rw [List.take_add_one, hx]
        exact (hP.mono fun p hp => .tail _ hp).snoc (.head _) ⟨[Value.ref b, Value.int x t], 0, rfl, rfl, ⟨t, rfl⟩, trivial⟩ hb
      · rw [List.map_cons, List.nodup_cons]
        exact ⟨fun hm => by obtain ⟨p, hp, e⟩ := List.mem_map.mp hm; exact hlt p (mN p hp) e, hnd⟩
      · intro c hc
        rcases List.mem_cons.mp hc with rfl | hc
        · exact fun ⟨_, _, e⟩ => nomatch e
        · exact hlow c hc
theorem off1_mem {D : Addr} : ∀ {news : List (Addr × Obj)}, LCg.Off1 D news → ∀ p ∈ news, p.1 ≠ D
  | [], _, _, h => nomatch h
  | _ :: _, x, p, h => by
    rcases List.mem_cons.mp h with rfl | h
    · exact x.1
    · exact off1_mem x.2 p h
theorem nodup_cons_off {D : Addr} {o : Obj} {news : List (Addr × Obj)} (hn : (news.map (·.1)).Nodup) (h : ∀ p ∈ news, p.1 ≠ D) : (((D, o) :: news).map (·.1)).Nodup := by
  rw [List.map_cons, List.nodup_cons]
  exact ⟨fun hm => by obtain ⟨p, hp, e⟩ := List.mem_map.mp hm; exact h p hp e, hn⟩
theorem low_cons {D : Addr} {o : Obj} {news : List (Addr × Obj)} (ho : ∀ es ep, o.data ≠ .dict es ep) (h : ∀ c ∈ news, (∃ es ep, c.2.data = .dict es ep) → sysModules < c.1) : ∀ c ∈ (D, o) :: news, (∃ es ep, c.2.data = .dict es ep) → sysModules < c.1 := fun c hc => by
  rcases List.mem_cons.mp hc with rfl | hc
  · exact fun ⟨_, _, e⟩ => absurd e (ho _ _)
  · exact h c hc
theorem St.sub {l' : List (Str × AV)} {cs' : List (Addr × Obj)} (S : St z h₀ L l cs s) (hl : ∀ p ∈ l', p ∈ l) (hn : (l'.map (·.1)).Nodup) (hc : ∀ p ∈ cs', p ∈ cs) (nd : (cs'.map (·.1)).Nodup) : St z h₀ L l' cs' s where
  gens := S.gens
  os := S.os
  fr := let ⟨m, F, hm⟩ := S.fr; ⟨m, F, fun p hp => hm p (hl p hp)⟩
  nl := hn
  news := fun p hp => S.news p (hc p hp)
  nd := nd
  low := fun c hp => S.low c (hc c hp)
theorem lookup_cell {cs : List (Addr × Obj)} (nd : (cs.map (·.1)).Nodup) {a : Addr} {o : Obj} (h : (a, o) ∈ cs) : (cs.find? fun p => p.1 == a).map (·.2) = some o := by
  induction cs with
  | nil => cases h
  | cons p r ih =>
    simp only [List.map_cons, List.nodup_cons] at nd
    rcases List.mem_cons.mp h with rfl | h
    · simp
    · have hne : p.1 ≠ a := fun e => nd.1 (e ▸ List.mem_map_of_mem (f := (·.1)) h)
      rw [List.find?_cons, beq_eq_false_iff_ne.mpr hne]
      exact ih nd.2 h
theorem ti_pair {o : Obj} {b : Addr} {v : Int} (h : TI o [.ref b, .int v]) : ∃ t n, o = tupOf #[Value.ref b, Value.int v t] n := by
  obtain ⟨us, n, rfl, hu⟩ := h
  obtain ⟨t, rfl⟩ := hu.pair
  exact ⟨t, n, rfl⟩
theorem ints_snoc {vs : List Value} {ns : List Int} {v : Int} {t : Tok} (h : IntsAre vs ns) : IntsAre (vs ++ [.int v t]) (ns ++ [v]) := IntsAre.append h (.cons v t .nil)

theorem lc_outer {p1 : Pos} {sc : Scope} {cl : List (Str × Addr)} {env : Env} {m : Str → Option Value} {ax : Addr} {bs : List Addr} {ep : Nat} {num : Addr → Int} {news : List (Addr × Obj)}
    (hk1 : ∀ C, (compEnvC sc cl C env).scope.kind = .function) (hk3 : ∀ C, (compEnvC sc cl C env).kindOf "v" = some .local)
    (hax : (ax, listOf (List.toArray (bs.map Value.ref)) ep) ∈ news) (hbs : ∀ a ∈ bs, ∃ o b, (a, o) ∈ news ∧ TI o [.ref b, .int (num a)])
    (Fin : List Value → List (Addr × Obj) → Prop) (hFin : ∀ ys, IntsAre ys (bs.map num) → Fin ys news) :
    ∀ (k i : Nat) (ys : List Value) (s : Shared), i + k = bs.length → IntsAre ys ((bs.take i).map num) →
      LCp.CompRestP PG w A h₀ L m env (Expr.Name "v" p1) "life" "v" sc cl s (LCg.SrcAt h₀ ax (List.toArray (bs.map Value.ref))) (fun i v => (List.toArray (bs.map Value.ref))[i]? = some v) Fin k i ys news := by
  intro k
  induction k with
  | zero =>
    intro i ys s hk hys
    refine LCp.CompRestP.zero (hFin ys ?_)
    rwa [show i = bs.length by omega, List.take_length] at hys
  | succ k ih =>
    intro i ys s hk hys
    refine LCp.CompRestP.succ fun v hv => ?_
    have hv' : (bs.map Value.ref)[i]? = some v := by simpa using hv
    rw [List.getElem?_map, Option.map_eq_some_iff] at hv'
    obtain ⟨a, ha, rfl⟩ := hv'
    obtain ⟨o, b, hm, ho⟩ := hbs a (List.mem_of_getElem? ha)
    obtain ⟨t, n, rfl⟩ := ti_pair ho
    refine ⟨a, _, Value.ref b, Value.int (num a) t, n, rfl, hm, rfl, rfl, ?_⟩
    intro I oI C oC D m₂ hh tk E' hNs hm1 hm2 F N off hne
    refine LCgL.ld_own (x := "v") (C := C) (oC := oC) N (.tail _ (.head _)) hNs hm2 ?_ (hk1 C) (hk3 C)
    refine LCg.CompEnd.intro (s₁ := { s with heap := hh, toks := tk }) F N news (fun p hp => hp) off (.inr ⟨_, hax, rfl, _, rfl⟩) ?_
    refine ih (i + 1) _ s (by omega) ?_
    rw [List.take_add_one, ha, List.map_append]
    exact ints_snoc hys
theorem pairs_num {cs : List (Addr × Obj)} {des : List (Int × AV)} {as : List Addr} {ns : List Int} (h : PairsAt cs des as ns) (nd : (cs.map (·.1)).Nodup) : ∃ num : Addr → Int, ns = as.map num ∧ ∀ a ∈ as, ∃ o b, (a, o) ∈ cs ∧ TI o [.ref b, .int (num a)] ∧ getK des (num a) = some (.ref b) := by
  have uniq : ∀ {a : Addr} {o o' : Obj} {b b' : Addr} {v v' : Int}, (a, o) ∈ cs → (a, o') ∈ cs → TI o [.ref b, .int v] → TI o' [.ref b', .int v'] → v = v' := by
    intro a o o' b b' v v' h1 h2 t1 t2
    have e : o = o' := by
      have g1 := lookup_cell nd h1
      have g2 := lookup_cell nd h2
      rw [g1] at g2; exact Option.some.inj g2
    subst e
    obtain ⟨t, n, rfl⟩ := ti_pair t1
    obtain ⟨t', n', e⟩ := ti_pair t2
    simp at e; exact e.1.2.1
  have hnum : ∀ a : Addr, ∃ v : Int, (∃ v' o b, (a, o) ∈ cs ∧ TI o [.ref b, .int v']) → ∃ o b, (a, o) ∈ cs ∧ TI o [.ref b, .int v] := fun a => by
    by_cases hh : ∃ v' o b, (a, o) ∈ cs ∧ TI o [.ref b, .int v']
    · obtain ⟨v, x⟩ := hh; exact ⟨v, fun _ => x⟩
    · exact ⟨0, fun x => absurd x hh⟩
  let num : Addr → Int := fun a => (hnum a).choose
  have key : ∀ (j : Nat) (a : Addr) (v : Int), as[j]? = some a → ns[j]? = some v → num a = v := fun j a v ha hv => by
    obtain ⟨o, b, h1, h2, _⟩ := h.2 j a v ha hv
    obtain ⟨o', b', h1', h2'⟩ := (hnum a).choose_spec ⟨v, o, b, h1, h2⟩
    exact uniq h1' h1 h2' h2
  refine ⟨num, ?_, fun a ha => ?_⟩
  · apply List.ext_getElem (by simp [h.1])
    intro j h1 h2
    rw [List.getElem_map]
    have hj : j < as.length := by simpa using h2
    exact (key j as[j] ns[j] (List.getElem?_eq_getElem hj) (List.getElem?_eq_getElem h1)).symm
  · obtain ⟨j, hj, rfl⟩ := List.mem_iff_getElem.mp ha
    have hj2 : j < ns.length := by rw [← h.1]; exact hj
    have e := key j as[j] ns[j] (List.getElem?_eq_getElem hj) (List.getElem?_eq_getElem hj2)
    obtain ⟨o, b, h1, h2, h3⟩ := h.2 j as[j] ns[j] (List.getElem?_eq_getElem hj) (List.getElem?_eq_getElem hj2)
    rw [e]
    exact ⟨o, b, h1, h2, h3⟩
end
end Mine
namespace Mine
set_option linter.unusedSectionVars false
set_option linter.unusedVariables false
set_option maxRecDepth 100000
set_option maxHeartbeats 1000000
section
variable {w : World} {A : Around} {z s : Shared} {h₀ : Heap} {L : Addr} {l : List (Str × AV)} {cs : List (Addr × Obj)} {n : Nat}
/-- a def of two parameters, of which an inner block reads the second -/
theorem r_callC {name qual : Str} {params : Arguments} {body : List Stmt} {scope : Scope} {dV kV doc pm cdv ct oc : Value} {an od : Option Addr} {osl : Array (Option Value)} {f : Addr} {x c : Str} {v₁ v₂ : Value} {av : AV} {Q : Value → Shared → Prop}
    (C : Cx w A h₀ L (n + 1)) (S : St z h₀ L l cs s)
    (ho : (hd.heap_1 w.params).lookup f = some ⟨oc, od, .func (fnOf name qual params body scope dV kV doc pm an cdv ct), osl⟩) (hcd : codeIn (hd.heap_1 w.params) cdv qual = true)
    (hbind : bindArgs (fnOf name qual params body scope dV kV doc pm an cdv ct) ⟨[v₁, v₂], []⟩ = pure [(x, v₁), (c, v₂)]) (hv : av.is v₁)
    (hx : scope.names.lookup x = some .local) (hc : scope.names.lookup c = some .cell) (hcells : ∀ n, cellsFrom n scope.names [] = [(c, n)])
    (hl : ∀ L' cd m, bindL (envOfC qual scope L' f cd).kindOf [(x, v₁), (c, v₂)] m x = some v₁) (hb : ∀ L' cd m, bindC (envOfC qual scope L' f cd).kindOf [(x, v₁), (c, v₂)] m c = some v₂)
    (h : ∀ g L' A' s' co, Cx w A' g L' n → co.data = .cell (some v₂) → St z g L' [(x, av)] ((L' + 1, co) :: cs) s' →
      WP w A' (execs body (envX qual scope L' f cdv [(c, L' + 1)])) (fun fl s'' => RetK z g L' h₀ L l Q (match fl with | .ret v => v | _ => .none) s'') s')
    (hco : scope.isCoroutine = false) (hgen : scope.isGenerator = false) (hk : scope.kind = .function) :
    WP w A (call (.ref f) [v₁, v₂] []) Q s := by
  refine wpAny_call ?_
  obtain ⟨m, F, hlc⟩ := S.fr
  obtain ⟨A₀, base, outer, env, B, hA, hf, hke⟩ := C.site
  refine callX_cells B F S.news C.nolimit hA hf hke ((C.K.keeps F.keep) _ _ ho) rfl (codeRec_of (C.K.keeps F.keep) hcd) (by have := C.depth; show A.depth < 1000; omega) (BindsTo.of_eq hbind) (fun k y hy => ?_) (by rw [hcells]; simp) ?_ hco hgen hk
  · simp only [List.mem_cons, List.not_mem_nil, or_false] at hy
    rcases hy with rfl | rfl
    · exact .inl hx
    · exact .inr ⟨hc, by rw [hcells]; simp⟩
  intro g L' h₁ tk cells FG F' N' hcl B' st hlt
  rw [hcells] at hcl
  obtain ⟨co, rfl, hcd'⟩ := hcl.one
  rw [hb] at hcd'
  have e : envOfC qual scope L' f cdv = envX qual scope L' f cdv [(c, L' + 1)] := by
    show envX qual scope L' f cdv (cellsFrom (L' + 1) scope.names []) = _
    rw [hcells]
  have F2 := F'
  rw [e] at F2 ⊢
  have C' : Cx w (A.deeper (envX qual scope L' f cdv [(c, L' + 1)])) g L' n := by
    refine ⟨C.K.keeps st, ?_, ⟨_, _, _, _, B', Around.frames_deeper B'.stack, rfl, hk⟩, ?_, ?_, ?_⟩
    · obtain ⟨p, lo, mg, mb, T⟩ := C.T; exact ⟨p, lo, mg, mb, T.keeps st⟩
    · rw [depth_dx]; have := C.depth; omega
    · rw [units_dx]; have := C.units; omega
    · exact C.handled
  have S' : St z g L' [(x, av)] ((L' + 1, co) :: cs) { s with heap := h₁, toks := tk } := by
    refine ⟨S.gens, S.os, ⟨_, F', fun p hp => ?_⟩, by simp, N', ?_, fun c' hc' => ?_⟩
    · simp only [List.mem_cons, List.not_mem_nil, or_false] at hp
      subst hp
      exact ⟨v₁, hl _ _ _, hv⟩
    · rw [List.map_cons, List.nodup_cons]
      refine ⟨fun hm => ?_, S.nd⟩
      obtain ⟨p, hp, e⟩ := List.mem_map.mp hm
      have := hlt p hp
      rw [e] at this
      exact absurd this (Nat.not_lt.mpr (Nat.le_succ L'))
    · rcases List.mem_cons.mp hc' with rfl | hc'
      · exact fun ⟨_, _, e⟩ => by rw [hcd'] at e; cases e
      · exact S.low _ hc'
  refine wpAny_mono (h g L' _ _ co C' hcd' S') (fun fl s'' hq => ?_) fun _ _ x => x.elim
  obtain ⟨l'', cs'', S'', k⟩ := hq
  obtain ⟨m'', F'', _⟩ := S''.fr
  exact ⟨L', m'', cs'', F'', S''.news, fun F3 N3 => k _ ⟨S''.gens, S''.os, ⟨m, F3, hlc⟩, S.nl, N3, S''.nd, S''.low⟩⟩
theorem r_locC {cn : Str} {sc : Scope} {cd : Value} {a : Addr} {cl : List (Str × Addr)} {x : Str} {pos : Pos} {av : AV} {Q : Value → Shared → Prop} (S : St z h₀ L l cs s) (hm : (x, av) ∈ l) (h : ∀ v, av.is v → Q v s)
    (hk : sc.kind = .function := by rfl) (hx : (envX cn sc L a cd cl).kindOf x = some .local := by rfl) (hd : (x == ("__debug__" : Str)) = false := by decide) :
    WP w A (eval (.Name x pos) (envX cn sc L a cd cl)) Q s := by
  obtain ⟨m, F, hl⟩ := S.fr
  obtain ⟨v, hv, iv⟩ := hl _ hm
  exact nameX_L F hv (h v iv) hk hx hd
theorem r_locI {cn : Str} {sc : Scope} {cd : Value} {a : Addr} {cl : List (Str × Addr)} {x : Str} {pos : Pos} {i : Int} {Q : Value → Shared → Prop} (S : St z h₀ L l cs s) (hm : (x, .int i) ∈ l) (h : ∀ t, Q (.int i t) s)
    (hk : sc.kind = .function := by rfl) (hx : (envX cn sc L a cd cl).kindOf x = some .local := by rfl) (hd : (x == ("__debug__" : Str)) = false := by decide) :
    WP w A (eval (.Name x pos) (envX cn sc L a cd cl)) Q s := r_locC S hm (fun _ ⟨t, e⟩ => e ▸ h t) hk hx hd
theorem r_locS {cn : Str} {sc : Scope} {cd : Value} {a : Addr} {cl : List (Str × Addr)} {x : Str} {pos : Pos} {i : Str} {Q : Value → Shared → Prop} (S : St z h₀ L l cs s) (hm : (x, .str i) ∈ l) (h : ∀ t, Q (.str i t) s)
    (hk : sc.kind = .function := by rfl) (hx : (envX cn sc L a cd cl).kindOf x = some .local := by rfl) (hd : (x == ("__debug__" : Str)) = false := by decide) :
    WP w A (eval (.Name x pos) (envX cn sc L a cd cl)) Q s := r_locC S hm (fun _ ⟨t, e⟩ => e ▸ h t) hk hx hd
theorem r_locR {cn : Str} {sc : Scope} {cd : Value} {a : Addr} {cl : List (Str × Addr)} {x : Str} {pos : Pos} {i : Addr} {Q : Value → Shared → Prop} (S : St z h₀ L l cs s) (hm : (x, .ref i) ∈ l) (h : Q (.ref i) s)
    (hk : sc.kind = .function := by rfl) (hx : (envX cn sc L a cd cl).kindOf x = some .local := by rfl) (hd : (x == ("__debug__" : Str)) = false := by decide) :
    WP w A (eval (.Name x pos) (envX cn sc L a cd cl)) Q s := r_locC S hm (fun _ e => e ▸ h) hk hx hd
theorem got_int {i : Int} {P : Value → Prop} (h : ∀ t, P (.int i t)) : ∀ v, (AV.int i).is v → P v := fun _ ⟨t, e⟩ => e ▸ h t
theorem got_str {i : Str} {P : Value → Prop} (h : ∀ t, P (.str i t)) : ∀ v, (AV.str i).is v → P v := fun _ ⟨t, e⟩ => e ▸ h t
theorem got_ref {i : Addr} {P : Value → Prop} (h : P (.ref i)) : ∀ v, (AV.ref i).is v → P v := fun _ e => e ▸ h
theorem got_bool {i : Bool} {P : Value → Prop} (h : P (.bool i)) : ∀ v, (AV.bool i).is v → P v := fun _ e => e ▸ h
theorem got2_int {i : Int} {P : Value → Shared → Prop} (h : ∀ s', St z h₀ L l cs s' → ∀ t, P (.int i t) s') : ∀ v s', (AV.int i).is v → St z h₀ L l cs s' → P v s' := fun _ s' ⟨t, e⟩ S => e ▸ h s' S t
theorem got2_str {i : Str} {P : Value → Shared → Prop} (h : ∀ s', St z h₀ L l cs s' → ∀ t, P (.str i t) s') : ∀ v s', (AV.str i).is v → St z h₀ L l cs s' → P v s' := fun _ s' ⟨t, e⟩ S => e ▸ h s' S t
theorem got2_ref {i : Addr} {P : Value → Shared → Prop} (h : ∀ s', St z h₀ L l cs s' → P (.ref i) s') : ∀ v s', (AV.ref i).is v → St z h₀ L l cs s' → P v s' := fun _ s' e S => e ▸ h s' S
theorem got2_bool {i : Bool} {P : Value → Shared → Prop} (h : ∀ s', St z h₀ L l cs s' → P (.bool i) s') : ∀ v s', (AV.bool i).is v → St z h₀ L l cs s' → P v s' := fun _ s' e S => e ▸ h s' S
theorem r_builtinC {cn : Str} {sc : Scope} {cd : Value} {a : Addr} {cl : List (Str × Addr)} {x : Str} {pos : Pos} {v : Value} {k : Nat} {Q : Value → Shared → Prop} (C : Cx w A h₀ L k) (S : St z h₀ L l cs s) (e : nsIn (hd.heap_1 w.params) mainGlobals x = some none) (hv : bootBuiltins x = some v) (hn : x ≠ "__name__") (h : Q v s)
    (hk : sc.kind = .function := by rfl) (hx : (envX cn sc L a cd cl).kindOf x = some .globalImplicit := by rfl) (hd : (x == ("__debug__" : Str)) = false := by decide) :
    WP w A (eval (.Name x pos) (envX cn sc L a cd cl)) Q s := by
  obtain ⟨m, F, hl⟩ := S.fr
  obtain ⟨_, _, _, _, T⟩ := C.T
  exact nameX_B F C.K T e hv hn h hk hx hd
end
end Mine
namespace Mine
set_option linter.unusedSectionVars false
set_option linter.unusedVariables false
set_option maxRecDepth 100000
set_option maxHeartbeats 1000000
theorem pow18 : (10 : Int) ^ (18 : Int).toNat = 1000000000000000000 := by decide
theorem pow64 : (10 : Int) ^ (64 : Int).toNat = 10000000000000000000000000000000000000000000000000000000000000000 := by decide
/-- the state of the draws -/
def SA (w : World) (so : Obj) (c : Addr) (at_ rest : Int) : Prop := ∃ es : List (Str × AV), DS w so es ∧ getK es "cells" = some (.ref c) ∧ getK es "at" = some (.int at_) ∧ getK es "rest" = some (.int rest) ∧ es.length < 100
theorem sa_rest {w : World} {o2 : Obj} {c : Addr} {at_ r2 : Int} {es : List (Str × AV)} (e1 : getK es "cells" = some (.ref c)) (e2 : getK es "at" = some (.int at_)) (e3 : (getK es "rest").isSome = true) (e4 : es.length < 100)
    (hd : DS w o2 (setK es "rest" (.int r2))) : SA w o2 c at_ r2 := by
  refine ⟨_, hd, ?_, ?_, ?_, ?_⟩
  · rw [getK_setK, if_neg (by decide)]; exact e1
  · rw [getK_setK, if_neg (by decide)]; exact e2
  · rw [getK_setK, if_pos rfl]
  · rw [length_setK, if_pos e3]; exact e4
theorem sa_full {w : World} {o2 : Obj} {c : Addr} {at_ a r r2 : Int} {es : List (Str × AV)} (e1 : getK es "cells" = some (.ref c)) (e2 : getK es "at" = some (.int at_)) (e3 : (getK es "rest").isSome = true) (e4 : es.length < 100)
    (hd : DS w o2 (setK (setK (setK es "at" (.int a)) "rest" (.int r)) "rest" (.int r2))) : SA w o2 c a r2 := by
  have f3 : (getK (setK es "at" (.int a)) "rest").isSome = true := by rw [getK_setK, if_neg (by decide)]; exact e3
  have f4 : (setK es "at" (AV.int a)).length < 100 := by rw [length_setK, if_pos (by rw [e2]; rfl)]; exact e4
  refine sa_rest (at_ := a) ?_ ?_ ?_ ?_ hd
  · rw [getK_setK, if_neg (by decide), getK_setK, if_neg (by decide)]; exact e1
  · rw [getK_setK, if_neg (by decide), getK_setK, if_pos rfl]
  · rw [getK_setK, if_pos rfl]; rfl
  · rw [length_setK, if_pos f3]; exact f4
theorem sa_two {w : World} {o2 : Obj} {c : Addr} {at_ a r : Int} {es : List (Str × AV)} (e1 : getK es "cells" = some (.ref c)) (e2 : getK es "at" = some (.int at_)) (e3 : (getK es "rest").isSome = true) (e4 : es.length < 100)
    (hd : DS w o2 (setK (setK es "at" (.int a)) "rest" (.int r))) : SA w o2 c a r := by
  refine sa_rest (at_ := a) ?_ ?_ ?_ ?_ hd
  · rw [getK_setK, if_neg (by decide)]; exact e1
  · rw [getK_setK, if_pos rfl]
  · rw [getK_setK, if_neg (by decide)]; exact e3
  · rw [length_setK, if_pos (by rw [e2]; rfl)]; exact e4
end Mine
namespace Mine
set_option linter.unusedVariables false
set_option maxRecDepth 100000
def Row.isOut (r : Row) : Bool := r.kind == "out"
/-- what the row reads -/
def reads (r : Row) : List Int := if (r.kind == "copy") = true then [r.left] else if (r.kind == "out") = true then [r.left] else if (r.kind == "xor") = true then [r.left, r.right] else []
def Defd (rows : List Row) (i : Nat) (v : Int) : Prop := ∃ j r, j < i ∧ rows[j]? = some r ∧ r.isOut = false ∧ r.name = v
structure WF (rows : List Row) : Prop where
  kinds : ∀ r ∈ rows, r.kind = "in" ∨ r.kind = "copy" ∨ r.kind = "const" ∨ r.kind = "xor" ∨ r.kind = "out"
  fresh : ∀ i r, rows[i]? = some r → r.isOut = false → 0 ≤ r.name ∧ ¬ Defd rows i r.name
  used : ∀ i r, rows[i]? = some r → ∀ v ∈ reads r, Defd rows i v
  first : ∃ r, rows[0]? = some r ∧ r.isOut = false
theorem Defd.app {rows : List Row} {i : Nat} {v : Int} {r : Row} (hi : i ≤ rows.length) : Defd (rows ++ [r]) i v ↔ Defd rows i v := by
  unfold Defd
  constructor
  · rintro ⟨j, q, hj, hq, h1, h2⟩
    rw [List.getElem?_append_left (by omega)] at hq
    exact ⟨j, q, hj, hq, h1, h2⟩
  · rintro ⟨j, q, hj, hq, h1, h2⟩
    exact ⟨j, q, hj, by rw [List.getElem?_append_left (by omega)]; exact hq, h1, h2⟩
theorem Defd.succ {rows : List Row} {r : Row} {v : Int} : Defd (rows ++ [r]) (rows.length + 1) v ↔ Defd rows rows.length v ∨ (r.isOut = false ∧ r.name = v) := by
  unfold Defd
  constructor
  · rintro ⟨j, q, hj, hq, h1, h2⟩
    by_cases hl : j < rows.length
    · rw [List.getElem?_append_left hl] at hq
      exact .inl ⟨j, q, hl, hq, h1, h2⟩
    · have e : j = rows.length := by omega
      subst e
      rw [List.getElem?_append_right (by omega)] at hq
      simp at hq; subst hq
      exact .inr ⟨h1, h2⟩
  · rintro (⟨j, q, hj, hq, h1, h2⟩ | ⟨h1, h2⟩)
    · exact ⟨j, q, by omega, by rw [List.getElem?_append_left hj]; exact hq, h1, h2⟩
    · exact ⟨rows.length, r, by omega, by simp, h1, h2⟩
theorem WF.snoc {rows : List Row} {r : Row} (h : WF rows) (hk : r.kind = "in" ∨ r.kind = "copy" ∨ r.kind = "const" ∨ r.kind = "xor" ∨ r.kind = "out") (hf : r.isOut = false → 0 ≤ r.name ∧ ¬ Defd rows rows.length r.name) (hu : ∀ v ∈ reads r, Defd rows rows.length v) : WF (rows ++ [r]) := by
  have split : ∀ (i : Nat) (q : Row), (rows ++ [r])[i]? = some q → (i < rows.length ∧ rows[i]? = some q) ∨ (i = rows.length ∧ q = r) := fun i q hq => by
    by_cases hl : i < rows.length
    · rw [List.getElem?_append_left hl] at hq; exact .inl ⟨hl, hq⟩
    · rw [List.getElem?_append_right (by omega)] at hq
      have e : i = rows.length := by have := lt_of_get hq; simp at this; omega
      subst e; simp at hq; exact .inr ⟨rfl, hq.symm⟩
  refine ⟨fun q hq => ?_, fun i q hq ho => ?_, fun i q hq v hv => ?_, ?_⟩
  · rcases List.mem_append.mp hq with hq | hq
    · exact h.kinds q hq
    · simp at hq; subst hq; exact hk
  · rcases split i q hq with ⟨hl, hq⟩ | ⟨rfl, rfl⟩
    · rw [Defd.app (by omega)]; exact h.fresh i q hq ho
    · rw [Defd.app (by omega)]; exact hf ho
  · rcases split i q hq with ⟨hl, hq⟩ | ⟨rfl, rfl⟩
    · rw [Defd.app (by omega)]; exact h.used i q hq v hv
    · rw [Defd.app (by omega)]; exact hu v hv
  · obtain ⟨q, hq, ho⟩ := h.first
    exact ⟨q, by rw [List.getElem?_append_left (lt_of_get hq)]; exact hq, ho⟩
/-- the rows made so far, the values and the number -/
structure Gen (rows : List Row) (vals : List Int) (number : Int) : Prop where
  wf : WF rows
  hv : ∀ v ∈ vals, Defd rows rows.length v
  low : ∀ v, Defd rows rows.length v → number ≤ v
  ne : vals ≠ []
theorem Gen.out {rows : List Row} {vals : List Int} {number k v : Int} {r : Row} (h : Gen rows vals number) (hr : r = ⟨"out", k, v, 0⟩) (hv : v ∈ vals) : Gen (rows ++ [r]) vals number := by
  have ho : r.isOut = true := by subst hr; show (Str.ofString "out" == Str.ofString "out") = true; decide
  refine ⟨h.wf.snoc (by subst hr; simp) (fun e => by rw [ho] at e; cases e) (fun x hx => ?_), fun x hx => ?_, fun x hx => ?_, h.ne⟩
  · have e : reads r = [v] := by subst hr; rfl
    rw [e] at hx; simp at hx; subst hx; exact h.hv _ hv
  · rw [List.length_append]; exact Defd.succ.mpr (.inl (h.hv x hx))
  · rw [List.length_append] at hx
    rcases Defd.succ.mp hx with hx | hx
    · exact h.low x hx
    · rw [ho] at hx; cases hx.1
theorem Gen.new {rows : List Row} {vals : List Int} {number : Int} {r : Row} (h : Gen rows vals number) (hn : 3 ≤ number) (hname : r.name = number - 3) (hk : r.kind = "in" ∨ r.kind = "copy" ∨ r.kind = "const" ∨ r.kind = "xor") (hu : ∀ v ∈ reads r, v ∈ vals) : Gen (rows ++ [r]) (vals ++ [number - 3]) (number - 3) := by
  have ho : r.isOut = false := by
    unfold Row.isOut
    rcases hk with e | e | e | e <;> rw [e] <;> decide
  refine ⟨h.wf.snoc (by rcases hk with e | e | e | e <;> simp [e]) (fun _ => ⟨by omega, fun hd => ?_⟩) (fun x hx => h.hv x (hu x hx)), fun x hx => ?_, fun x hx => ?_, by simp⟩
  · have := h.low _ hd; omega
  · rw [List.length_append]
    refine Defd.succ.mpr ?_
    rcases List.mem_append.mp hx with hx | hx
    · exact .inl (h.hv x hx)
    · simp at hx; exact .inr ⟨ho, by omega⟩
  · rw [List.length_append] at hx
    rcases Defd.succ.mp hx with hx | hx
    · have := h.low x hx; omega
    · omega
theorem Gen.start : Gen [⟨"in", 60, 0, 0⟩] [60] 60 := by
  refine ⟨⟨by simp, ?_, ?_, ⟨⟨"in", 60, 0, 0⟩, rfl, by decide⟩⟩, ?_, ?_, by simp⟩
  · intro i r hr ho
    have : i = 0 := by have := lt_of_get hr; simp at this; exact this
    subst this; simp at hr; subst hr
    exact ⟨by decide, fun ⟨j, q, hj, _⟩ => by omega⟩
  · intro i r hr v hv
    have : i = 0 := by have := lt_of_get hr; simp at this; exact this
    subst this; simp at hr; subst hr
    exact absurd hv (by simp [reads, show (Str.ofString "in" == Str.ofString "copy") = false by decide, show (Str.ofString "in" == Str.ofString "out") = false by decide, show (Str.ofString "in" == Str.ofString "xor") = false by decide])
  · intro v hv
    simp at hv; subst hv
    exact ⟨0, ⟨"in", 60, 0, 0⟩, by simp, rfl, by decide, rfl⟩
  · rintro v ⟨j, q, hj, hq, h1, h2⟩
    have : j = 0 := by simp at hj; exact hj
    subst this; simp at hq; subst hq; simp at h2; omega
theorem RowsAt.snoc {cs : List (Addr × Obj)} {ro : Obj} {rows : List Row} {r : Row} {t : Addr} {ot : Obj} {as : List Addr}
    (h2 : LI ro (as.map .ref)) (h3 : as.length = rows.length) (h4 : ∀ (i : Nat) (r : Row), rows[i]? = some r → ∃ a o, as[i]? = some a ∧ (a, o) ∈ cs ∧ TI o r.avs) (ht : (t, ot) ∈ cs) (hot : TI ot r.avs) :
    (as ++ [t]).length = (rows ++ [r]).length ∧ ∀ (i : Nat) (q : Row), (rows ++ [r])[i]? = some q → ∃ a o, (as ++ [t])[i]? = some a ∧ (a, o) ∈ cs ∧ TI o q.avs := by
  refine ⟨by simp [h3], fun i q hq => ?_⟩
  by_cases hl : i < rows.length
  · rw [List.getElem?_append_left hl] at hq
    obtain ⟨a, o, a1, a2, a3⟩ := h4 i q hq
    exact ⟨a, o, by rw [List.getElem?_append_left (by omega)]; exact a1, a2, a3⟩
  · rw [List.getElem?_append_right (by omega)] at hq
    have e : i = rows.length := by have := lt_of_get hq; simp at this; omega
    subst e; simp at hq; subst hq
    exact ⟨t, ot, by rw [← h3]; simp, ht, hot⟩
end Mine
namespace Mine
set_option linter.unusedSectionVars false
set_option linter.unusedVariables false
set_option maxRecDepth 100000
set_option maxHeartbeats 1000000
section
variable {w : World} {A : Around} {z s : Shared} {h₀ : Heap} {L : Addr} {l : List (Str × AV)} {cs : List (Addr × Obj)} {n : Nat} {env : Env}
theorem r_unpack_row {x1 x2 x3 x4 : Str} {p1 p2 p3 p4 pos : Pos} {k} {t : Addr} {o : Obj} {r : Row} {Q : Unit → Shared → Prop} (C : Cx w A h₀ L n) (S : St z h₀ L l cs s) (hm : (t, o) ∈ cs) (ho : TI o r.avs)
    (h : ∀ t1 t2 t3 t4 s', St z h₀ L l cs s' → WP w A (storeName env x1 (.str r.kind t1)) (fun _ s1 => WP w A (storeName env x2 (.int r.name t2)) (fun _ s2 => WP w A (storeName env x3 (.int r.left t3)) (fun _ s3 => WP w A (storeName env x4 (.int r.right t4)) (fun _ s4 => Q () s4) s3) s2) s1) s') :
    WP w A (assign (.Tuple [.Name x1 p1, .Name x2 p2, .Name x3 p3, .Name x4 p4] k pos) env (.ref t)) Q s := by
  obtain ⟨vs, ep, rfl, hv⟩ := ho
  obtain ⟨t1, t2, t3, t4, rfl⟩ := AVs.four hv
  · refine assign_Tuple_tuple C.handled (items := #[.str r.kind t1, .int r.name t2, .int r.left t3, .int r.right t4]) ⟨_, (S.news _ hm).1, rfl, ep, rfl⟩ rfl rfl fun h' he => ?_
    have S1 : St z h₀ L l cs { s with heap := h' } := by
      have := S.keeps (tk := s.toks) (h' := h') fun b x q => he b x (Nat.ne_of_lt (Heap.lt_size q)) q
      exact this
    refine assignInOrder_cons (wpAny_assign_Name (wpAny_mono (h t1 t2 t3 t4 _ S1) (fun _ s1 h1 => ?_) fun _ _ e => e))
    refine assignInOrder_cons (wpAny_assign_Name (wpAny_mono h1 (fun _ s2 h2 => ?_) fun _ _ e => e))
    refine assignInOrder_cons (wpAny_assign_Name (wpAny_mono h2 (fun _ s3 h3 => ?_) fun _ _ e => e))
    refine assignInOrder_cons (wpAny_assign_Name (wpAny_mono h3 (fun _ s4 h4 => ?_) fun _ _ e => e))
    exact assignInOrder_nil h4

/-- a for over a list of tuples -/
theorem r_iter_rows {elts : List Expr} {k} {px : Pos} {body : List Stmt} {Q : Flow → Shared → Prop} {d : Addr} {o : Obj} {as : List Addr} (C : Cx w A h₀ L n) (S : St z h₀ L l cs s) (ho : LI o (as.map .ref))
    (J : Nat → List (Str × AV) → List (Addr × Obj) → Prop) (hJ : J 0 l cs) (hm : ∀ i l c, J i l c → (d, o) ∈ c)
    (turn : ∀ i a l c io I s', as[i]? = some a → J i l c → St z h₀ L l ((I, io) :: c) s' → WP w A (assign (.Tuple elts k px) env (.ref a)) (fun _ s₁ => WP w A (execs body env) (LoopEnd z h₀ L (J (i + 1)) (I, io) Q) s₁) s')
    (done : ∀ l c s', J as.length l c → St z h₀ L l c s' → Q .next s') : IterAt w A env (.Tuple elts k px) body Q (.ref d) s := by
  obtain ⟨vs, ep, rfl, hv⟩ := ho
  have hvs := AVs.refs hv
  have hlen := hv.length
  rw [List.length_map] at hlen
  have hl : s.heap.IsList d vs.toArray := ⟨_, (S.news _ (hm _ _ _ hJ)).1, rfl, ep, rfl⟩
  refine wpAny_pyIter_list hl ?_
  have hne : d ≠ s.heap.objs.size := Nat.ne_of_lt (Heap.lt_size (S.news _ (hm _ _ _ hJ)).1)
  have W := Walks.list (prog := PG) (w := w) C.handled s.heap.objs.size d hne vs.toArray
  rw [show vs.toArray.size = as.length by simp [hlen]] at W
  have S1 : St z h₀ L l ((s.heap.objs.size, _) :: cs) { s with heap := s.heap.push { cls := .type "list_iterator", data := .fields #[.ref d, .int 0 0] } } := S.alloc C rfl (fun b x q => Heap.get?_push_of_some _ q) (Heap.get?_push_size _ rfl)
  have hP : ∀ i v, vs.toArray[i]? = some v → ∃ a, as[i]? = some a ∧ v = Value.ref a := fun i v h => by
    rw [hvs, List.getElem?_toArray, List.getElem?_map, Option.map_eq_some_iff] at h
    obtain ⟨a, h1, h2⟩ := h
    exact ⟨a, h1, h2.symm⟩
  refine r_loop W J (fun b hb => ?_) (fun i h hs => ?_) S1 ⟨⟨_, Heap.get?_push_size _ rfl, rfl, rfl⟩, hl.at fun o e => Heap.get?_push_of_some _ e⟩ hJ (fun i v s' Q hp hs hq => ?_) (fun i v l c io s' hi hp hJ' S' => ?_) done
  · simp only [List.mem_cons, List.not_mem_nil, or_false] at hb
    rcases hb with rfl | rfl
    · exact .inl rfl
    · exact .inr ⟨_, hm⟩
  · obtain ⟨o, ho, _, hd'⟩ := hs.1; exact ⟨o, ho, fun es ep e => by simp [e] at hd'⟩
  · obtain ⟨a, _, rfl⟩ := hP i v hp
    exact wpAny_letOwnedTupleGo_listiter hs.1 hq
  · obtain ⟨a, ha, rfl⟩ := hP i v hp
    exact turn i a l c io _ s' ha hJ' S'

/-- list + list -/
theorem r_addlist {a b : Addr} {oa ob : Obj} {xs ys : List AV} {Q : Value → Shared → Prop} (C : Cx w A h₀ L n) (S : St z h₀ L l cs s) (ha : (a, oa) ∈ cs) (hb : (b, ob) ∈ cs) (hoa : LI oa xs) (hob : LI ob ys) (hn : xs.length < 1000) (hn2 : ys.length < 1000)
    (h : ∀ d o s', LI o (xs ++ ys) → St z h₀ L l ((d, o) :: cs) s' → Q (.ref d) s') : WP w A (binaryOp .Add (.ref a) (.ref b)) Q s := by
  obtain ⟨vs, ep, rfl, hv⟩ := hoa
  obtain ⟨us, eq, rfl, hu⟩ := hob
  have e1 := hv.length
  have e2 := hu.length
  obtain ⟨m, F, hl⟩ := S.fr
  refine add_lists F S.news ⟨_, (S.news _ ha).1, rfl, ep, rfl⟩ ⟨_, (S.news _ hb).1, rfl, eq, rfl⟩ (fun h' F' N' => h _ _ _ ⟨vs ++ us, 0, rfl, hv.append hu⟩ ?_) (by rw [sizeLine_eq]; omega)
  have S0 := S.alloc (D := s.heap.objs.size) (tk := s.toks) (o := { cls := .type "list", data := .seq (vs ++ us).toArray }) C rfl (h' := s.heap.push { cls := .type "list", data := .seq (vs ++ us).toArray }) (fun b x q => Heap.get?_push_of_some _ q) (Heap.get?_push_size _ rfl)
  exact ⟨S.gens, S.os, ⟨m, F', hl⟩, S.nl, N', S0.nd, S0.low⟩

theorem r_slice {value slice : Expr} {a : Addr} {oa : Obj} {xs : List AV} {hi : Int} {t : Tok} {Q : Value → Shared → Prop} (C : Cx w A h₀ L n) (S : St z h₀ L l cs s) (ha : (a, oa) ∈ cs) (hoa : LI oa xs) (hn : xs.length < 1000) (h0 : 0 ≤ hi) (h1 : hi < 1000)
    (h : ∀ d o s', LI o (xs.take hi.toNat) → St z h₀ L l ((d, o) :: cs) s' → Q (.ref d) s')
    (hs : subscripted slice false (.ref a) (.ref s.heap.objs.size) = operate [.ref s.heap.objs.size, .ref a] (getItem (.ref a) (.ref s.heap.objs.size)) := by with_unfolding_all rfl)
    (ht : ∀ r, letTemporaryGo value (.ref a) r = pure () := by intro _; with_unfolding_all rfl) :
    WP w A (subscriptTail value slice (.ref a) (.ref s.heap.objs.size)) Q { s with heap := s.heap.push { cls := .type "slice", data := .fields #[.none, .int hi t, .none] } } := by
  obtain ⟨vs, ep, rfl, hv⟩ := hoa
  have e1 := hv.length
  obtain ⟨m, F, hl⟩ := S.fr
  refine slice_list (lo := none) (hi := some hi) F S.news ⟨_, (S.news _ ha).1, rfl, ep, rfl⟩ .none (.int _ _) (fun h' F' N' => ?_) hs ht (by rw [List.size_toArray, sizeLine_eq]; omega)
  obtain ⟨k, rfl⟩ := Int.eq_ofNat_of_zero_le h0
  rw [show (some (k : Int)) = some ((k : Nat) : Int) from rfl, slicePick_upto'] at N'
  have hvt : AVs (xs.take k) (vs.take k) := by
    clear hs h N' h1 h0 e1 hn ha
    induction k generalizing vs xs with
    | zero => trivial
    | succ k ih =>
      cases xs with
      | nil => rw [hv.unn]; exact trivial
      | cons x xs =>
        obtain ⟨v, r, rfl, i, hr⟩ := hv.unc
        exact ⟨i, ih _ hr⟩
  refine h _ _ _ ⟨vs.take k, 0, rfl, hvt⟩ ?_
  refine ⟨S.gens, S.os, ⟨m, F', hl⟩, S.nl, N', ?_, fun c hc => ?_⟩
  · rw [List.map_cons, List.nodup_cons]
    refine ⟨fun hm => ?_, S.nd⟩
    obtain ⟨p, hp, e⟩ := List.mem_map.mp hm
    have := Heap.lt_size (S.news p hp).1
    rw [e] at this
    exact absurd this (Nat.not_lt.mpr (Nat.le_succ _))
  · rcases List.mem_cons.mp hc with rfl | hc
    · exact fun ⟨_, _, e⟩ => nomatch e
    · exact S.low c hc
theorem r_eqbool {a b : Bool} {Q : Value → Shared → Prop} (h : Q (.bool (a == b)) s) : WP w A (compareOp .Eq (.bool a) (.bool b)) Q s := PyProof.Rows.eq_bool h
end
end Mine
namespace Mine
set_option linter.unusedSectionVars false
set_option linter.unusedVariables false
set_option linter.unusedSimpArgs false
set_option maxRecDepth 100000
def maskN (s e : Nat) : Nat := 2 ^ (e + 1) - 2 ^ s
def mask (p : Int × Int) : Int := (maskN p.1.toNat p.2.toNat : Nat)
theorem mask_low : ∀ s < 40, ∀ e < 40, s ≤ e → (maskN s e - (maskN s e &&& (maskN s e - 1)) = 2 ^ s ∧ 0 < maskN s e) := by decide +kernel
theorem bitAnd_nat (a b : Nat) : Builtin.bitAnd a b = ((a &&& b : Nat) : Int) := by
  unfold Builtin.bitAnd; simp
theorem bitOr_nat (a b : Nat) : Builtin.bitOr a b = ((a ||| b : Nat) : Int) := by
  have h1 : Builtin.bitNot (a : Int) = -(a : Int) - 1 := rfl
  have h2 : ¬ (0 : Int) ≤ -(a : Int) - 1 := by omega
  have h3 : ¬ (0 : Int) ≤ -(b : Int) - 1 := by omega
  have k1 : (-(-(a : Int) - 1) - 1).toNat = a := by omega
  have k2 : (-(-(b : Int) - 1) - 1).toNat = b := by omega
  unfold Builtin.bitOr Builtin.bitAnd Builtin.bitNot
  simp only [h2, h3, decide_false, k1, k2]
  omega
theorem mask_lowest {p : Int × Int} (h0 : 0 ≤ p.1) (h1 : p.1 ≤ p.2) (h2 : p.2 < 40) : Builtin.bitAnd (mask p) (-(mask p)) = 2 ^ p.1.toNat := by
  have h := mask_low p.1.toNat (by omega) p.2.toNat (by omega) (by omega)
  unfold mask
  generalize maskN p.1.toNat p.2.toNat = x at h
  have n1 : (0 : Int) ≤ (x : Int) := by omega
  have n2 : ¬ (0 : Int) ≤ -(x : Int) := by omega
  have n3 : (-(-(x : Int)) - 1).toNat = x - 1 := by omega
  have n4 : x &&& (x - 1) ≤ x := Nat.and_le_left
  unfold Builtin.bitAnd Builtin.bitNot
  simp only [n1, n2, decide_true, decide_false, n3, Int.toNat_natCast]
  have : ((2 ^ p.1.toNat : Nat) : Int) = 2 ^ p.1.toNat := by norm_cast
  rw [← this, ← h.1]; omega
theorem mask_read {s k : Int} (h0 : 0 ≤ s) (h1 : s ≤ k) : 1 * 2 ^ (k + 1).toNat - 2 ^ s.toNat = mask (s, k) := by
  unfold mask maskN
  have e : (k + 1).toNat = k.toNat + 1 := by omega
  have hle : 2 ^ s.toNat ≤ 2 ^ (k.toNat + 1) := Nat.pow_le_pow_right (by decide) (by omega)
  rw [e, Int.one_mul]
  have a1 : ((2 ^ (k.toNat + 1) : Nat) : Int) = 2 ^ (k.toNat + 1) := by norm_cast
  have a2 : ((2 ^ s.toNat : Nat) : Int) = 2 ^ s.toNat := by norm_cast
  show _ = ((2 ^ (k.toNat + 1) - 2 ^ s.toNat : Nat) : Int)
  rw [← a1, ← a2]; omega
theorem mask_def {k : Int} (h0 : 0 ≤ k) : 1 * 2 ^ k.toNat = mask (k, k) := by
  unfold mask maskN
  have a1 : ((2 ^ k.toNat : Nat) : Int) = 2 ^ k.toNat := by norm_cast
  show _ = ((2 ^ (k.toNat + 1) - 2 ^ k.toNat : Nat) : Int)
  rw [Int.one_mul, ← a1, Nat.pow_succ]; omega
theorem maskN_bit {s e i : Nat} (h : s ≤ e) : (maskN s e).testBit i = (decide (s ≤ i) && decide (i ≤ e)) := by
  have e1 : maskN s e = (2 ^ (e + 1 - s) - 1) <<< s := by
    unfold maskN
    rw [Nat.shiftLeft_eq, Nat.sub_mul, ← Nat.pow_add, Nat.one_mul]
    congr 2; omega
  rw [e1, Nat.testBit_shiftLeft, Nat.testBit_two_pow_sub_one]
  by_cases h1 : s ≤ i
  · have : decide (i ≥ s) = true := by simpa using h1
    rw [this]; simp only [h1, decide_true, Bool.true_and]
    congr 1; simp only [eq_iff_iff]; omega
  · have : decide (i ≥ s) = false := by simpa using h1
    rw [this]; simp [h1]
theorem mask_bit {p : Int × Int} {i : Nat} (h0 : 0 ≤ p.1) (h1 : p.1 ≤ p.2) : (maskN p.1.toNat p.2.toNat).testBit i = (decide (p.1 ≤ i) && decide ((i : Int) ≤ p.2)) := by
  rw [maskN_bit (by omega)]
  congr 2 <;> (simp only [eq_iff_iff]; omega)

/-- the times, from the spans -/
def tm (es : Lv) : List (Int × AV) := es.map fun e => (e.1, .int (mask e.2))
theorem keys_tm (es : Lv) : (tm es).map (·.1) = es.map (·.1) := by unfold tm; rw [List.map_map]; rfl
theorem length_tm (es : Lv) : (tm es).length = es.length := by unfold tm; simp
theorem getK_tm (es : Lv) (v : Int) : getK (tm es) v = (getK es v).map fun p => .int (mask p) := by
  induction es with
  | nil => rfl
  | cons e r ih =>
    obtain ⟨x, u⟩ := e
    unfold tm at ih ⊢
    rw [List.map_cons, getK_cons, getK_cons, ih]
    split <;> rfl
theorem setK_tm (es : Lv) (v : Int) (p : Int × Int) : setK (tm es) v (.int (mask p)) = tm (setK es v p) := by
  unfold setK
  rw [any_getK, any_getK, getK_tm, Option.isSome_map]
  split
  · unfold tm
    rw [List.map_map, List.map_map]
    apply List.map_congr_left
    intro e _
    show (if e.1 = v then (e.1, AV.int (mask p)) else (e.1, AV.int (mask e.2))) = _
    simp only [Function.comp]
    split <;> rfl
  · unfold tm; simp
theorem setK_idem {K α : Type} [DecidableEq K] (es : List (K × α)) (k : K) (v : α) : setK (setK es k v) k v = setK es k v := by
  have hany : ((setK es k v).any fun e => decide (e.1 = k)) = true := by rw [any_getK, getK_setK, if_pos rfl]; rfl
  have hmem : ∀ e ∈ setK es k v, e.1 = k → e = (k, v) := fun e he hk => by
    unfold setK at he
    split at he
    · obtain ⟨x, _, rfl⟩ := List.mem_map.mp he
      by_cases hx : x.1 = k
      · simp [hx]
      · simp only [hx, if_false] at hk
    · rename_i hn
      rcases List.mem_append.mp he with he | he
      · exact absurd (List.any_eq_true.mpr ⟨e, he, by simpa using hk⟩) hn
      · simpa using he
  have key : ∀ T : List (K × α), (T.any fun e => decide (e.1 = k)) = true → (∀ e ∈ T, e.1 = k → e = (k, v)) → setK T k v = T := fun T h1 h2 => by
    unfold setK
    rw [if_pos h1]
    conv => rhs; rw [← List.map_id T]
    apply List.map_congr_left
    intro e he
    by_cases hk : e.1 = k
    · have := h2 e he hk
      subst this; simp
    · simp [hk]
  exact key _ hany hmem
end Mine
namespace Mine
set_option linter.unusedSectionVars false
set_option linter.unusedVariables false
set_option linter.unusedSimpArgs false
set_option maxRecDepth 100000
theorem fold_get (i : Int) : ∀ (us : List Int) (es : Lv) (v : Int), (∀ u ∈ us, (getK es u).isSome = true) → getK (us.foldl (useStep i) es) v = if v ∈ us then some (((getK es v).getD (0, 0)).1, 2 * i) else getK es v
  | [], es, v, _ => by simp
  | u :: r, es, v, h => by
    rw [List.foldl_cons, fold_get i r (useStep i es u) v fun x hx => useFold_isSome i [u] es x (h x (List.mem_cons_of_mem _ hx))]
    have e : getK (useStep i es u) v = if v = u then some (((getK es u).getD (0, 0)).1, 2 * i) else getK es v := by unfold useStep; rw [getK_setK]
    rw [e]
    by_cases hv : v = u
    · subst hv; simp
    · simp only [hv, if_false, List.mem_cons, false_or]
theorem kinds_uses {r : Row} (h : r.kind = "in" ∨ r.kind = "copy" ∨ r.kind = "const" ∨ r.kind = "xor" ∨ r.kind = "out") : uses r = reads r ∨ (reads r = [r.left, r.right] ∧ r.left = r.right ∧ uses r = [r.left]) := by
  unfold uses reads
  rcases h with e | e | e | e | e <;> rw [e]
  · exact .inl rfl
  · exact .inl rfl
  · exact .inl rfl
  · by_cases h : r.left = r.right
    · refine .inr ⟨rfl, h, ?_⟩
      show (if r.left = r.right then [r.left] else [r.left, r.right]) = _
      rw [if_pos h]
    · refine .inl ?_
      show (if r.left = r.right then [r.left] else [r.left, r.right]) = [r.left, r.right]
      rw [if_neg h]
  · exact .inl rfl
theorem mem_uses {r : Row} (h : r.kind = "in" ∨ r.kind = "copy" ∨ r.kind = "const" ∨ r.kind = "xor" ∨ r.kind = "out") {v : Int} : v ∈ uses r ↔ v ∈ reads r := by
  rcases kinds_uses h with e | ⟨e1, e2, e3⟩
  · rw [e]
  · rw [e1, e3, e2]; simp
theorem fold_reads {r : Row} (h : r.kind = "in" ∨ r.kind = "copy" ∨ r.kind = "const" ∨ r.kind = "xor" ∨ r.kind = "out") (i : Int) (es : Lv) : (reads r).foldl (useStep i) es = (uses r).foldl (useStep i) es := by
  rcases kinds_uses h with e | ⟨e1, e2, e3⟩
  · rw [e]
  · rw [e1, e3, ← e2]
    show useStep i (useStep i es r.left) r.left = useStep i es r.left
    have e : getK (useStep i es r.left) r.left = some (((getK es r.left).getD (0, 0)).1, 2 * i) := by unfold useStep; rw [getK_setK, if_pos rfl]
    conv => lhs; unfold useStep
    rw [show getK (setK es r.left (((getK es r.left).getD (0, 0)).1, 2 * i)) r.left = some (((getK es r.left).getD (0, 0)).1, 2 * i) from e]
    exact setK_idem _ _ _
theorem Defd.step {rows : List Row} {i : Nat} {r : Row} {v : Int} (hr : rows[i]? = some r) : Defd rows (i + 1) v ↔ Defd rows i v ∨ (r.isOut = false ∧ r.name = v) := by
  unfold Defd
  constructor
  · rintro ⟨j, q, hj, hq, h1, h2⟩
    by_cases hl : j < i
    · exact .inl ⟨j, q, hl, hq, h1, h2⟩
    · have e : j = i := by omega
      subst e
      rw [hr] at hq; cases hq
      exact .inr ⟨h1, h2⟩
  · rintro (⟨j, q, hj, hq, h1, h2⟩ | ⟨h1, h2⟩)
    · exact ⟨j, q, by omega, hq, h1, h2⟩
    · exact ⟨i, r, by omega, hr, h1, h2⟩
theorem Defd.le {rows : List Row} {i j : Nat} {v : Int} (h : Defd rows i v) (hij : i ≤ j) : Defd rows j v := by
  obtain ⟨k, q, hk, hq, h1, h2⟩ := h
  exact ⟨k, q, by omega, hq, h1, h2⟩
theorem spansN_succ {rows : List Row} {i : Nat} {r : Row} (hr : rows[i]? = some r) : spansN rows (i + 1) = spStep i (spansN rows i) r := by
  show (match rows[i]? with | some r => spStep i (spansN rows i) r | none => spansN rows i) = _
  rw [hr]
theorem defOf_out {r : Row} (h : r.isOut = true) : defOf r = -1 := by unfold defOf; rw [if_pos (show (r.kind == "out") = true from h)]
theorem defOf_in {r : Row} (h : r.isOut = false) : defOf r = r.name := by unfold defOf; rw [if_neg (by rw [show (r.kind == "out") = false from h]; decide)]
theorem span_inv {rows : List Row} (h : WF rows) : ∀ i, i ≤ rows.length → (∀ v, (getK (spansN rows i) v).isSome = true ↔ Defd rows i v) ∧ (∀ v p, getK (spansN rows i) v = some p → 0 ≤ p.1 ∧ p.1 ≤ p.2 ∧ p.2 < 2 * i)
  | 0, _ => by
    refine ⟨fun v => ?_, fun v p hp => ?_⟩
    · constructor
      · intro h; simp [spansN, getK_nil] at h
      · rintro ⟨j, q, hj, _⟩; omega
    · simp [spansN, getK_nil] at hp
  | i + 1, hi => by
    obtain ⟨ih1, ih2⟩ := span_inv h i (by omega)
    obtain ⟨r, hr⟩ : ∃ r, rows[i]? = some r := ⟨_, List.getElem?_eq_getElem (by omega)⟩
    have hk := h.kinds r (List.mem_of_getElem? hr)
    have hu : ∀ u ∈ uses r, (getK (spansN rows i) u).isSome = true := fun u hu => (ih1 u).mpr (h.used i r hr u ((mem_uses hk).mp hu))
    have hg := fun v => fold_get i (uses r) (spansN rows i) v hu
    have hb : ∀ v p, getK ((uses r).foldl (useStep i) (spansN rows i)) v = some p → 0 ≤ p.1 ∧ p.1 ≤ p.2 ∧ p.2 < 2 * (i : Int) + 1 := fun v p hp => by
      rw [hg] at hp
      split at hp
      · rename_i hv
        obtain ⟨q, hq⟩ := Option.isSome_iff_exists.mp (hu v hv)
        rw [hq] at hp
        simp only [Option.getD_some, Option.some.injEq] at hp
        subst hp
        have := ih2 v q hq
        dsimp only; omega
      · have := ih2 v p hp; omega
    have hs : ∀ v, (getK ((uses r).foldl (useStep i) (spansN rows i)) v).isSome = true ↔ Defd rows i v := fun v => by
      rw [hg]
      split
      · rename_i hv; simp only [Option.isSome_some, true_iff]; exact (ih1 v).mp (hu v hv)
      · exact ih1 v
    rw [spansN_succ hr]
    unfold spStep
    dsimp only
    cases ho : r.isOut with
    | true =>
      rw [defOf_out ho, if_neg (by omega)]
      refine ⟨fun v => ?_, fun v p hp => ?_⟩
      · rw [hs, Defd.step hr, ho]; simp
      · have := hb v p hp; omega
    | false =>
      have hp0 := h.fresh i r hr ho
      rw [defOf_in ho, if_pos hp0.1]
      refine ⟨fun v => ?_, fun v p hp => ?_⟩
      · rw [getK_setK, Defd.step hr, ho]
        by_cases hv : v = r.name
        · subst hv; simp
        · have hv' : ¬ r.name = v := fun e => hv e.symm
          simp only [hv, if_false, hv', and_false, or_false]; exact hs v
      · rw [getK_setK] at hp
        split at hp
        · simp only [Option.some.injEq] at hp
          subst hp
          dsimp only; omega
        · have := hb v p hp; omega
theorem span_nodup (rows : List Row) : ∀ i, ((spansN rows i).map (·.1)).Nodup
  | 0 => by simp [spansN]
  | i + 1 => by
    have ih := span_nodup rows i
    have hset : ∀ (es : Lv) (k : Int) (p : Int × Int), (es.map (·.1)).Nodup → ((setK es k p).map (·.1)).Nodup := fun es k p hn => by
      rw [keys_setK]
      split
      · exact hn
      · rename_i hs
        refine List.nodup_append.mpr ⟨hn, by simp, fun a ha b hb e => ?_⟩
        simp at hb; subst hb; subst e
        exact hs ((mem_keys _ _).mp ha)
    have hfold : ∀ (us : List Int) (es : Lv), (es.map (·.1)).Nodup → ((us.foldl (useStep i) es).map (·.1)).Nodup := fun us => by
      induction us with
      | nil => exact fun es h => h
      | cons u r ihu => exact fun es h => ihu _ (hset _ _ _ h)
    unfold spansN
    split
    · unfold spStep
      dsimp only
      split
      · exact hset _ _ _ (hfold _ _ ih)
      · exact hfold _ _ ih
    · exact ih
section
variable {rows : List Row}
theorem WF.hwf (h : WF rows) : ∀ (i : Nat) (r : Row), rows[i]? = some r → ∀ v ∈ uses r, (getK (spansN rows i) v).isSome = true := fun i r hr v hv =>
  ((span_inv h i (Nat.le_of_lt (lt_of_get hr))).1 v).mpr (h.used i r hr v ((mem_uses (h.kinds r (List.mem_of_getElem? hr))).mp hv))
theorem WF.key (h : WF rows) {v : Int} : v ∈ (spansP rows).map (·.1) ↔ Defd rows rows.length v := (mem_keys _ _).trans ((span_inv h rows.length (Nat.le_refl _)).1 v)
theorem copy_isOut {r : Row} (h : (r.kind == "copy") = true) : r.isOut = false := by
  have e : r.kind = "copy" := by simpa using h
  unfold Row.isOut; rw [e]; decide
theorem WF.hcopy (h : WF rows) : ∀ r ∈ rows, (r.kind == "copy") = true → r.name ∈ (spansP rows).map (·.1) ∧ r.left ∈ (spansP rows).map (·.1) := fun r hr hk => by
  obtain ⟨i, hi, e⟩ := List.mem_iff_getElem.mp hr
  have hi' : rows[i]? = some r := by rw [List.getElem?_eq_getElem hi, e]
  refine ⟨h.key.mpr ⟨i, r, hi, hi', copy_isOut hk, rfl⟩, h.key.mpr ((h.used i r hi' r.left ?_).le (Nat.le_of_lt hi))⟩
  unfold reads; rw [if_pos hk]; simp
theorem WF.hpos (h : WF rows) : ∀ v ∈ (spansP rows).map (·.1), 0 ≤ v := fun v hv => by
  obtain ⟨j, q, hj, hq, h1, h2⟩ := h.key.mp hv
  exact h2 ▸ (h.fresh j q hq h1).1
theorem WF.life (h : WF rows) {v : Int} (hv : v ∈ (spansP rows).map (·.1)) : getK (spansP rows) v = some (lifeOf (spansP rows) v) ∧ 0 ≤ (lifeOf (spansP rows) v).1 ∧ (lifeOf (spansP rows) v).1 ≤ (lifeOf (spansP rows) v).2 ∧ (lifeOf (spansP rows) v).2 < 2 * rows.length := by
  obtain ⟨p, hp⟩ := Option.isSome_iff_exists.mp ((mem_keys _ _).mp hv)
  have e : lifeOf (spansP rows) v = p := by unfold lifeOf; rw [hp]; rfl
  rw [e]
  exact ⟨hp, (span_inv h rows.length (Nat.le_refl _)).2 v p hp⟩
end
end Mine
namespace Mine
set_option linter.unusedSectionVars false
set_option linter.unusedVariables false
set_option linter.unusedSimpArgs false
set_option maxRecDepth 100000
theorem cnt_mono {nk nk' : Int → List Int} {v v' : Int} {S S' : List Int} (hn : (nk v).Nodup) (h : ∀ x, x ∈ nk v → x ∈ S → x ∈ nk' v' ∧ x ∈ S') : cnt nk v S ≤ cnt nk' v' S' := by
  unfold cnt
  refine length_le_of_subset (hn.filter _) fun x hx => ?_
  rw [List.mem_filter, decide_eq_true_eq] at hx ⊢
  exact h x hx.1 hx.2
theorem heavyDeg_comm (nk : Int → List Int) (a b x : Int) : heavyDeg nk a b x = heavyDeg nk b a x := by
  unfold heavyDeg
  by_cases h1 : a ∈ nk x <;> by_cases h2 : b ∈ nk x <;> simp [h1, h2]
theorem heavyCount_comm (nk : Int → List Int) (a b c : Int) (B : List Int) : heavyCount nk a b c B = heavyCount nk b a c B := by
  unfold heavyCount
  simp only [heavyDeg_comm nk a b]
/-- a join, whichever side is kept -/
structure JoinStep (count : Int) (V0 : List Int) (g g' : GS) (a b : Int) : Prop where
  ha : a ∈ g.1
  hb : b ∈ g.1
  hab : a ≠ b
  hnab : b ∉ g.2.1 a
  hV : g'.1 = g.1.filter (fun x => decide (x ≠ b))
  hadj : ∀ x ∈ g.1, x ≠ b → ∀ y, y ∈ g'.2.1 x ↔ JoinAdj g.2.1 a b x y
  hmk : g'.2.2 = fun x => if x = a then g.2.2 a ++ g.2.2 b else g.2.2 x
  hB : ∃ B : List Int, B.Nodup ∧ (∀ x, x ∈ B ↔ x ∈ g.2.1 a ∨ x ∈ g.2.1 b) ∧ heavyCount g.2.1 a b count B < count
  P : GP V0 g'.1 g'.2.1 g'.2.2
abbrev GPs (V0 : List Int) (g : GS) : Prop := GP V0 g.1 g.2.1 g.2.2
theorem CoNext.join {count : Int} {V0 : List Int} {r : Row} {g g' : GS} (P : GPs V0 g) (h : CoNext count r g g') (hc : (r.kind == "copy") = true → r.name ∈ V0 ∧ r.left ∈ V0) :
    (¬ ((r.kind == "copy") = true ∧ CanJoin count g (holderOf g.1 g.2.2 r.name) (holderOf g.1 g.2.2 r.left)) ∧ g' = g) ∨ ((r.kind == "copy") = true ∧ ∃ a b, ((a = holderOf g.1 g.2.2 r.name ∧ b = holderOf g.1 g.2.2 r.left) ∨ (b = holderOf g.1 g.2.2 r.name ∧ a = holderOf g.1 g.2.2 r.left)) ∧ JoinStep count V0 g g' a b) := by
  obtain ⟨V, nk, mk⟩ := g
  obtain ⟨V', nk', mk'⟩ := g'
  dsimp only [GPs] at P
  rcases h with ⟨hk, ⟨h1, h2, B, h3, h4, h5⟩, a, b, hor, hV, hadj, hmk, hnn⟩ | h
  · right
    refine ⟨hk, a, b, hor, ?_⟩
    obtain ⟨hc1, hc2⟩ := hc hk
    obtain ⟨hn1, hn2⟩ := P.holder hc1
    obtain ⟨ho1, ho2⟩ := P.holder hc2
    dsimp only at *
    subst hmk
    have key : a ∈ V ∧ b ∈ V ∧ a ≠ b ∧ b ∉ nk a ∧ ∃ B : List Int, B.Nodup ∧ (∀ x, x ∈ B ↔ x ∈ nk a ∨ x ∈ nk b) ∧ heavyCount nk a b count B < count := by
      rcases hor with ⟨e1, e2⟩ | ⟨e1, e2⟩
      · rw [← e1] at hn1 h1 h2 h4 h5
        rw [← e2] at ho1 h1 h2 h4 h5
        exact ⟨hn1, ho1, h1, h2, B, h3, h4, h5⟩
      · rw [← e1] at hn1 h1 h2 h4 h5
        rw [← e2] at ho1 h1 h2 h4 h5
        refine ⟨ho1, hn1, fun e => h1 e.symm, fun hm => h2 (P.hsym a ho1 b hm), B, h3, fun x => (h4 x).trans ?_, ?_⟩
        · exact ⟨Or.symm, Or.symm⟩
        · rw [heavyCount_comm]; exact h5
    obtain ⟨k1, k2, k3, k4, k5⟩ := key
    subst hV
    exact ⟨k1, k2, k3, k4, rfl, hadj, rfl, k5, P.join k1 k2 k3 k4 hadj hnn⟩
  · exact .inl h

structure Inv (sp : Lv) (V0 : List Int) (g : GS) : Prop where
  P : GPs V0 g
  apart : ∀ u ∈ g.1, ∀ x ∈ g.2.2 u, ∀ y ∈ g.2.2 u, x ≠ y → ovl sp x y = false
  exact' : ∀ u ∈ g.1, ∀ v ∈ g.1, v ∈ g.2.1 u ↔ u ≠ v ∧ ∃ x ∈ g.2.2 u, ∃ y ∈ g.2.2 v, ovl sp x y = true
def GKp (count : Int) (g : GS) : Prop := ∀ S : List Int, S ≠ [] → (∀ x ∈ S, x ∈ g.1) → ∃ v ∈ S, (cnt g.2.1 v S : Int) < count
theorem Inv.step {count : Int} {sp : Lv} {V0 : List Int} {g g' : GS} {a b : Int} (I : Inv sp V0 g) (J : JoinStep count V0 g g' a b) : Inv sp V0 g' := by
  obtain ⟨V, nk, mk⟩ := g
  obtain ⟨V', nk', mk'⟩ := g'
  obtain ⟨P, apart, ex⟩ := I
  obtain ⟨ha, hb, hab, hnab, hV, hadj, hmk, hB, P'⟩ := J
  dsimp only [GPs] at *
  subst hV hmk
  have hVm : ∀ x, x ∈ V.filter (fun x => decide (x ≠ b)) ↔ x ∈ V ∧ x ≠ b := fun x => by simp
  have hba : ¬ b = a := fun e => hab e.symm
  have hnba : a ∉ nk b := fun h => hnab (P.hsym b hb a h)
  have cross : ∀ x ∈ mk a, ∀ y ∈ mk b, ovl sp x y = false := fun x hx y hy => by
    cases e : ovl sp x y with
    | false => rfl
    | true => exact absurd ((ex a ha b hb).mpr ⟨hab, x, hx, y, hy, e⟩) hnab
  refine ⟨P', fun u hu x hx y hy hxy => ?_, fun u hu v hv => ?_⟩
  · obtain ⟨hu1, hu2⟩ := (hVm u).mp hu
    by_cases e : u = a
    · subst e
      simp only [if_true, List.mem_append] at hx hy
      rcases hx with hx | hx <;> rcases hy with hy | hy
      · exact apart _ ha x hx y hy hxy
      · exact cross x hx y hy
      · rw [ovl_comm]; exact cross y hy x hx
      · exact apart b hb x hx y hy hxy
    · simp only [e, if_false] at hx hy
      exact apart u hu1 x hx y hy hxy
  · obtain ⟨hu1, hu2⟩ := (hVm u).mp hu
    obtain ⟨hv1, hv2⟩ := (hVm v).mp hv
    dsimp only
    rw [hadj u hu1 hu2]
    unfold JoinAdj
    by_cases eu : u = a
    · subst eu
      simp only [if_true]
      by_cases ev : v = u
      · subst ev
        simp only [ne_eq, not_true_eq_false, false_and, iff_false]
        rintro (h | h)
        · exact P.hirr _ ha h
        · exact hnba h
      · simp only [ev, if_false]
        rw [ex u ha v hv1, ex b hb v hv1]
        simp only [List.mem_append]
        constructor
        · rintro (⟨h1, x, hx, h⟩ | ⟨h1, x, hx, h⟩)
          · exact ⟨h1, x, .inl hx, h⟩
          · exact ⟨fun e => ev e.symm, x, .inr hx, h⟩
        · rintro ⟨h1, x, hx | hx, h⟩
          · exact .inl ⟨h1, x, hx, h⟩
          · exact .inr ⟨fun e => hv2 e.symm, x, hx, h⟩
    · simp only [eu, if_false]
      by_cases ev : v = a
      · subst ev
        simp only [if_true, List.mem_append]
        have e1 := ex u hu1 v ha
        have e2 := ex u hu1 b hb
        have sy : u ∈ nk b ↔ b ∈ nk u := ⟨fun h => P.hsym b hb u h, fun h => P.hsym u hu1 b h⟩
        have rhs : (u ≠ v ∧ ∃ x ∈ mk u, ∃ y, (y ∈ mk v ∨ y ∈ mk b) ∧ ovl sp x y = true) ↔ v ∈ nk u ∨ b ∈ nk u := by
          rw [e1, e2]
          constructor
          · rintro ⟨h1, x, hx, y, hy | hy, h⟩
            · exact .inl ⟨h1, x, hx, y, hy, h⟩
            · exact .inr ⟨hu2, x, hx, y, hy, h⟩
          · rintro (⟨h1, x, hx, y, hy, h⟩ | ⟨h1, x, hx, y, hy, h⟩)
            · exact ⟨h1, x, hx, y, .inl hy, h⟩
            · exact ⟨eu, x, hx, y, .inr hy, h⟩
        rw [rhs]
        by_cases hub : u ∈ nk b
        · simp only [hub, if_true, or_true, true_iff]; exact .inr (sy.mp hub)
        · have : b ∉ nk u := fun h => hub (sy.mpr h)
          simp only [hub, if_false, this, or_false]
      · simp only [ev, if_false, or_false]
        rw [← ex u hu1 v hv1]
        by_cases hub : u ∈ nk b
        · simp only [hub, if_true, hv2, ne_eq, not_false_eq_true, and_true]
        · simp only [hub, if_false]
theorem GKp.step {count : Int} {V0 : List Int} {g g' : GS} {a b : Int} (P : GPs V0 g) (K : GKp count g) (J : JoinStep count V0 g g' a b) : GKp count g' := by
  obtain ⟨V, nk, mk⟩ := g
  obtain ⟨V', nk', mk'⟩ := g'
  obtain ⟨ha, hb, hab, hnab, hV, hadj, hmk, ⟨B, hB1, hB2, hB3⟩, P'⟩ := J
  dsimp only [GPs] at *
  subst hV hmk
  have hVm : ∀ x, x ∈ V.filter (fun x => decide (x ≠ b)) ↔ x ∈ V ∧ x ≠ b := fun x => by simp
  intro S hS hSV
  dsimp only at hSV ⊢
  by_cases haS : a ∈ S
  · by_cases hall : ∃ v ∈ S, (cnt nk' v S : Int) < count
    · exact hall
    · exfalso
      have hall' : ∀ v ∈ S, count ≤ (cnt nk' v S : Int) := fun v hv => by
        by_cases h : (cnt nk' v S : Int) < count
        · exact absurd ⟨v, hv, h⟩ hall
        · omega
      have haV' : a ∈ V.filter (fun x => decide (x ≠ b)) := hSV a haS
      have hN := hall' a haS
      have hle : cnt nk' a S ≤ (B.filter fun x => decide (count ≤ heavyDeg nk a b x)).length := by
        unfold cnt
        refine length_le_of_subset ((P'.nn a haV').filter _) fun x hx => ?_
        rw [List.mem_filter, decide_eq_true_eq] at hx
        obtain ⟨hx1, hx2⟩ := hx
        have hxV := (hVm x).mp (hSV x hx2)
        have hxa : x ≠ a := fun e => P'.hirr a haV' (e ▸ hx1)
        rw [hadj a ha hab] at hx1
        unfold JoinAdj at hx1
        rw [if_pos rfl] at hx1
        rw [List.mem_filter, decide_eq_true_eq]
        refine ⟨(hB2 x).mpr hx1, ?_⟩
        have hcx := hall' x hx2
        have hnx := P'.nn x (hSV x hx2)
        have hc2 : cnt nk' x S ≤ (nk' x).length := by unfold cnt; exact List.length_filter_le _ _
        have hadx := hadj x hxV.1 hxV.2
        have hnkx := P.nn x hxV.1
        have hsyb : x ∈ nk b ↔ b ∈ nk x := ⟨fun h => P.hsym b hb x h, fun h => P.hsym x hxV.1 b h⟩
        have hsya : x ∈ nk a ↔ a ∈ nk x := ⟨fun h => P.hsym a ha x h, fun h => P.hsym x hxV.1 a h⟩
        have hdeg : ((nk' x).length : Int) ≤ heavyDeg nk a b x := by
          unfold heavyDeg
          by_cases hxb : x ∈ nk b
          · have hbx := hsyb.mp hxb
            have hlen := simp_len hnkx hbx
            by_cases hax : a ∈ nk x
            · rw [if_pos ⟨hax, hbx⟩]
              have : (nk' x).length ≤ ((nk x).filter fun y => decide (y ≠ b)).length := length_le_of_subset hnx fun y hy => by
                rw [hadx] at hy
                unfold JoinAdj at hy
                rw [if_neg hxa, if_pos hxb] at hy
                rw [List.mem_filter, decide_eq_true_eq]
                rcases hy with hy | rfl
                · exact hy
                · exact ⟨hax, hab⟩
              omega
            · rw [if_neg fun h => hax h.1]
              have : (nk' x).length ≤ (a :: (nk x).filter fun y => decide (y ≠ b)).length := length_le_of_subset hnx fun y hy => by
                rw [hadx] at hy
                unfold JoinAdj at hy
                rw [if_neg hxa, if_pos hxb] at hy
                rcases hy with hy | rfl
                · exact List.mem_cons_of_mem _ (List.mem_filter.mpr ⟨hy.1, by simpa using hy.2⟩)
                · exact List.mem_cons_self
              rw [List.length_cons] at this
              omega
          · have hbx : b ∉ nk x := fun h => hxb (hsyb.mpr h)
            rw [if_neg fun h => hbx h.2]
            have : (nk' x).length ≤ (nk x).length := length_le_of_subset hnx fun y hy => by
              rw [hadx] at hy
              unfold JoinAdj at hy
              rw [if_neg hxa, if_neg hxb] at hy
              exact hy
            omega
        omega
      unfold heavyCount at hB3
      omega
  · obtain ⟨v, hv, hlt⟩ := K S hS fun x hx => ((hVm x).mp (hSV x hx)).1
    refine ⟨v, hv, ?_⟩
    dsimp only at hlt
    have hvV := (hVm v).mp (hSV v hv)
    have hva : v ≠ a := fun e => haS (e ▸ hv)
    have : cnt nk' v S ≤ cnt nk v S := cnt_mono (P'.nn v (hSV v hv)) fun x hx hxS => by
      rw [hadj v hvV.1 hvV.2] at hx
      unfold JoinAdj at hx
      rw [if_neg hva] at hx
      refine ⟨?_, hxS⟩
      split at hx
      · rcases hx with hx | rfl
        · exact hx.1
        · exact absurd hxS haS
      · exact hx
    omega
/-- what holds along the run -/
theorem CoRun.inv {count : Int} {sp : Lv} {V0 : List Int} {rs : List Row} {g0 g : GS} (R : CoRun count rs g0 g) (I0 : Inv sp V0 g0) (hc : ∀ r ∈ rs, (r.kind == "copy") = true → r.name ∈ V0 ∧ r.left ∈ V0) : Inv sp V0 g ∧ (GKp count g0 → GKp count g) := by
  induction R with
  | nil => exact ⟨I0, id⟩
  | snoc h1 h2 ih =>
    rename_i rs r _ g1 g2
    obtain ⟨I, K⟩ := ih I0 fun r hr => hc r (List.mem_append_left _ hr)
    rcases CoNext.join I.P h2 (hc r (by simp)) with ⟨_, rfl⟩ | ⟨_, a, b, _, J⟩
    · exact ⟨I, K⟩
    · exact ⟨I.step J, fun h => (K h).step I.P J⟩
theorem GP.uniq {names V : List Int} {nk mk : Int → List Int} (P : GP names V nk mk) (hn : names.Nodup) {u v x : Int} (hu : u ∈ V) (hv : v ∈ V) (hxu : x ∈ mk u) (hxv : x ∈ mk v) : u = v := by
  have hf : (V.flatMap mk).Nodup := P.part.nodup_iff.mpr hn
  have hvn := P.vn
  clear P
  induction V with
  | nil => cases hu
  | cons y r ih =>
    rw [List.flatMap_cons, List.nodup_append] at hf
    rw [List.nodup_cons] at hvn
    rcases List.mem_cons.mp hu with rfl | hu' <;> rcases List.mem_cons.mp hv with rfl | hv'
    · rfl
    · exact absurd rfl (hf.2.2 x hxu x (List.mem_flatMap.mpr ⟨v, hv', hxv⟩))
    · exact absurd rfl (hf.2.2 x hxv x (List.mem_flatMap.mpr ⟨u, hu', hxu⟩))
    · exact ih hu' hv' hf.2.1 hvn.2
/-- who is not touched stays alone -/
theorem CoRun.alone {count : Int} {sp : Lv} {V0 : List Int} {rs : List Row} {g0 g : GS} {v : Int} (R : CoRun count rs g0 g) (I0 : Inv sp V0 g0) (hc : ∀ r ∈ rs, (r.kind == "copy") = true → r.name ∈ V0 ∧ r.left ∈ V0) (hv0 : v ∈ g0.1) (hm0 : g0.2.2 v = [v])
    (ht : ∀ r ∈ rs, (r.kind == "copy") = true → r.name ≠ v ∧ r.left ≠ v) : v ∈ g.1 ∧ g.2.2 v = [v] := by
  induction R with
  | nil => exact ⟨hv0, hm0⟩
  | snoc h1 h2 ih =>
    rename_i rs r _ g1 g2
    have hc' : ∀ r ∈ rs, (r.kind == "copy") = true → r.name ∈ V0 ∧ r.left ∈ V0 := fun r hr => hc r (List.mem_append_left _ hr)
    obtain ⟨k1, k2⟩ := ih I0 hc' hv0 hm0 fun r hr => ht r (List.mem_append_left _ hr)
    obtain ⟨I, _⟩ := h1.inv I0 hc'
    rcases CoNext.join I.P h2 (hc r (by simp)) with ⟨_, rfl⟩ | ⟨hk, a, b, hor, J⟩
    · exact ⟨k1, k2⟩
    · obtain ⟨t1, t2⟩ := ht r (by simp) hk
      obtain ⟨c1, c2⟩ := hc r (by simp) hk
      have n1 : holderOf g1.1 g1.2.2 r.name ≠ v := fun e => by
        have := (I.P.holder c1).2; rw [e, k2] at this; simp at this; exact t1 this
      have n2 : holderOf g1.1 g1.2.2 r.left ≠ v := fun e => by
        have := (I.P.holder c2).2; rw [e, k2] at this; simp at this; exact t2 this
      have hva : v ≠ a := by rcases hor with ⟨e1, e2⟩ | ⟨e1, e2⟩ <;> subst e1 e2 <;> first | exact n1.symm | exact n2.symm
      have hvb : v ≠ b := by rcases hor with ⟨e1, e2⟩ | ⟨e1, e2⟩ <;> subst e1 e2 <;> first | exact n1.symm | exact n2.symm
      rw [J.hV, J.hmk]
      refine ⟨by simp [k1, hvb], ?_⟩
      simp only [hva, if_false]; exact k2
def Joined (u v : Int) (g : GS) : Prop := ∃ x ∈ g.1, u ∈ g.2.2 x ∧ v ∈ g.2.2 x
theorem Joined.step {count : Int} {V0 : List Int} {g g' : GS} {a b u v : Int} (h : Joined u v g) (J : JoinStep count V0 g g' a b) : Joined u v g' := by
  obtain ⟨x, hx, h1, h2⟩ := h
  by_cases e : x = b
  · subst e
    refine ⟨a, by rw [J.hV]; simp [J.ha, J.hab], ?_, ?_⟩ <;> rw [J.hmk] <;> simp [h1, h2]
  · refine ⟨x, by rw [J.hV]; simp [hx, e], ?_, ?_⟩ <;> rw [J.hmk] <;> by_cases e2 : x = a
    · subst e2; simp [h1]
    · simp [e2, h1]
    · subst e2; simp [h2]
    · simp [e2, h2]
theorem CoRun.joined {count : Int} {sp : Lv} {V0 : List Int} {rs : List Row} {g0 g : GS} {r : Row} (R : CoRun count rs g0 g) (I0 : Inv sp V0 g0) (hV0 : V0.Nodup) (hg0 : ∀ v ∈ V0, v ∈ g0.1 ∧ g0.2.2 v = [v]) (hc : ∀ r ∈ rs, (r.kind == "copy") = true → r.name ∈ V0 ∧ r.left ∈ V0)
    (hk : (r.kind == "copy") = true) (ho : ovl sp r.name r.left = false) (hne : r.name ≠ r.left) (hcount : (V0.length : Int) < count) :
    ∀ pre post, rs = pre ++ r :: post → (∀ q ∈ pre ++ post, (q.kind == "copy") = true → (q.name ≠ r.name ∧ q.left ≠ r.name) ∧ (q.name ≠ r.left ∧ q.left ≠ r.left)) → Joined r.name r.left g := by
  induction R with
  | nil => intro pre post h; simp at h
  | snoc h1 h2 ih =>
    rename_i rs q _ g1 g2
    intro pre post he ht
    have hc' : ∀ r ∈ rs, (r.kind == "copy") = true → r.name ∈ V0 ∧ r.left ∈ V0 := fun r hr => hc r (List.mem_append_left _ hr)
    obtain ⟨I, _⟩ := h1.inv I0 hc'
    have hq := CoNext.join I.P h2 (hc q (by simp))
    rcases List.eq_nil_or_concat post with rfl | ⟨post', q', rfl⟩
    · obtain ⟨rfl, e2⟩ := List.append_inj' he rfl
      simp only [List.cons.injEq, and_true] at e2
      subst e2
      obtain ⟨c1, c2⟩ := hc q (by simp) hk
      obtain ⟨n1, n2⟩ := h1.alone I0 hc' (hg0 _ c1).1 (hg0 _ c1).2 fun r hr hkr => (ht r (List.mem_append_left _ hr) hkr).1
      obtain ⟨l1, l2⟩ := h1.alone I0 hc' (hg0 _ c2).1 (hg0 _ c2).2 fun r hr hkr => (ht r (List.mem_append_left _ hr) hkr).2
      have e1 : holderOf g1.1 g1.2.2 q.name = q.name := by
        obtain ⟨u1, u2⟩ := I.P.holder c1
        exact I.P.uniq hV0 u1 n1 u2 (by rw [n2]; simp)
      have e2 : holderOf g1.1 g1.2.2 q.left = q.left := by
        obtain ⟨u1, u2⟩ := I.P.holder c2
        exact I.P.uniq hV0 u1 l1 u2 (by rw [l2]; simp)
      rw [e1, e2] at hq
      rcases hq with ⟨hno, _⟩ | ⟨_, a, b, hor, J⟩
      · exfalso
        refine hno ⟨hk, hne, fun hm => ?_, ?_⟩
        · obtain ⟨_, x, hx, y, hy, hxy⟩ := (I.exact' _ n1 _ l1).mp hm
          rw [n2] at hx; rw [l2] at hy
          simp at hx hy; subst hx hy
          rw [ho] at hxy; cases hxy
        · refine ⟨g1.2.1 q.name ++ (g1.2.1 q.left).filter (fun x => decide (x ∉ g1.2.1 q.name)), ?_, fun x => ?_, ?_⟩
          · refine List.nodup_append.mpr ⟨I.P.nn _ n1, (I.P.nn _ l1).filter _, fun x hx y hy e => ?_⟩
            subst e
            rw [List.mem_filter] at hy
            exact absurd hx (by simpa using hy.2)
          · simp only [List.mem_append, List.mem_filter, decide_eq_true_eq]
            by_cases hx : x ∈ g1.2.1 q.name <;> simp [hx]
          · unfold heavyCount
            rw [List.filter_eq_nil_iff.mpr]
            · simp; omega
            · intro x hx
              have hxV : x ∈ g1.1 := by
                rcases List.mem_append.mp hx with hx | hx
                · exact I.P.hin _ n1 x hx
                · exact I.P.hin _ l1 x (List.mem_filter.mp hx).1
              have h3 : (g1.2.1 x).length ≤ V0.length := length_le_of_subset (I.P.nn x hxV) fun y hy => I.P.vs y (I.P.hin x hxV y hy)
              simp only [decide_eq_true_eq]
              unfold heavyDeg
              split <;> omega
      · have hn2' : q.name ∈ g1.2.2 q.name := by rw [n2]; simp
        have hl2' : q.left ∈ g1.2.2 q.left := by rw [l2]; simp
        refine ⟨a, by rw [J.hV]; simp [J.ha, J.hab], ?_, ?_⟩ <;> rw [J.hmk] <;> simp only [if_true, List.mem_append]
        · rcases hor with ⟨rfl, rfl⟩ | ⟨rfl, rfl⟩
          · exact .inl hn2'
          · exact .inr hn2'
        · rcases hor with ⟨rfl, rfl⟩ | ⟨rfl, rfl⟩
          · exact .inr hl2'
          · exact .inl hl2'
    · rw [List.concat_eq_append, ← List.cons_append, ← List.append_assoc] at he
      obtain ⟨e1, e2⟩ := List.append_inj' he rfl
      have hj := ih I0 hg0 hc' pre post' e1 fun q hq => ht q (by
        rcases List.mem_append.mp hq with h | h
        · exact List.mem_append_left _ h
        · exact List.mem_append_right _ (by simp [h]))
      rcases hq with ⟨_, rfl⟩ | ⟨_, a, b, _, J⟩
      · exact hj
      · exact hj.step J
end Mine
namespace Mine
set_option linter.unusedSectionVars false
set_option linter.unusedVariables false
set_option linter.unusedSimpArgs false
set_option maxRecDepth 100000
def aliveAt (sp : Lv) (t : Nat) (v : Int) : Bool := decide ((lifeOf sp v).1 ≤ t) && decide ((t : Int) ≤ (lifeOf sp v).2)
def aliveN (sp : Lv) (t : Nat) : Nat := ((sp.map (·.1)).filter (aliveAt sp t)).length
theorem ovl_of_alive {sp : Lv} {t : Nat} {u v : Int} (hu : aliveAt sp t u = true) (hv : aliveAt sp t v = true) : ovl sp u v = true := by
  unfold aliveAt at hu hv
  unfold ovl
  simp only [Bool.and_eq_true, decide_eq_true_eq] at *
  omega
theorem range_len {l : List Int} {c : Int} (hn : l.Nodup) (h : ∀ x ∈ l, 0 ≤ x ∧ x < c) (h0 : 0 ≤ c) : (l.length : Int) ≤ c := by
  have := length_le_of_subset (a := l) (b := (List.range c.toNat).map Int.ofNat) hn fun x hx => by
    obtain ⟨h1, h2⟩ := h x hx
    refine List.mem_map.mpr ⟨x.toNat, List.mem_range.mpr (by omega), ?_⟩
    show ((x.toNat : Nat) : Int) = x
    omega
  simp at this; omega
theorem exists_max (f : Int → Int) : ∀ S : List Int, S ≠ [] → ∃ v ∈ S, ∀ u ∈ S, f u ≤ f v
  | [], h => absurd rfl h
  | [x], _ => ⟨x, by simp, by simp⟩
  | x :: y :: r, _ => by
    obtain ⟨v, hv, hm⟩ := exists_max f (y :: r) (by simp)
    by_cases h : f x ≤ f v
    · refine ⟨v, List.mem_cons_of_mem _ hv, fun u hu => ?_⟩
      rcases List.mem_cons.mp hu with rfl | hu
      · exact h
      · exact hm u hu
    · refine ⟨x, List.mem_cons_self, fun u hu => ?_⟩
      rcases List.mem_cons.mp hu with rfl | hu
      · exact Int.le_refl _
      · have := hm u hu; omega
section
variable {rows : List Row} {count : Int}
theorem GKp.init {V0 : List Int} {nk0 mk0 : Int → List Int} (hw : WF rows) (hV0 : V0.Perm ((spansP rows).map (·.1))) (hnk : ∀ u ∈ V0, ∀ y, y ∈ nk0 u ↔ y ∈ V0 ∧ u ≠ y ∧ ovl (spansP rows) u y = true) (hnn : ∀ u ∈ V0, (nk0 u).Nodup)
    (ha : ∀ t : Nat, t ≤ 2 * rows.length → (aliveN (spansP rows) t : Int) ≤ count) : GKp count (V0, nk0, mk0) := by
  intro S hS hSV
  dsimp only at hSV ⊢
  obtain ⟨v, hv, hmax⟩ := exists_max (fun v => (lifeOf (spansP rows) v).1) S hS
  refine ⟨v, hv, ?_⟩
  have hvk := hV0.mem_iff.mp (hSV v hv)
  obtain ⟨_, l1, l2, l3⟩ := hw.life hvk
  obtain ⟨t, ht⟩ := Int.eq_ofNat_of_zero_le l1
  have hat := ha t (by omega)
  have hle : (v :: (nk0 v).filter fun x => decide (x ∈ S)).length ≤ aliveN (spansP rows) t := by
    refine length_le_of_subset (List.nodup_cons.mpr ⟨fun hm => ?_, (hnn v (hSV v hv)).filter _⟩) fun x hx => ?_
    · exact ((hnk v (hSV v hv) v).mp (List.mem_filter.mp hm).1).2.1 rfl
    · rw [List.mem_filter]
      rcases List.mem_cons.mp hx with rfl | hx
      · refine ⟨hvk, ?_⟩
        unfold aliveAt
        simp only [Bool.and_eq_true, decide_eq_true_eq]; omega
      · rw [List.mem_filter, decide_eq_true_eq] at hx
        obtain ⟨x1, x2, x3⟩ := (hnk v (hSV v hv) x).mp hx.1
        refine ⟨hV0.mem_iff.mp x1, ?_⟩
        have := hmax x hx.2
        unfold ovl at x3
        unfold aliveAt
        simp only [Bool.and_eq_true, decide_eq_true_eq] at *
        omega
  rw [List.length_cons] at hle
  unfold cnt
  omega
variable {KR KS : List Int} {reg sl : Int → Int}
structure Law1 (rows : List Row) (count : Int) (KR KS : List Int) (reg sl : Int → Int) : Prop where
  perm : (KR ++ KS).Perm ((spansP rows).map (·.1))
  lo : ∀ v ∈ KR, 0 ≤ reg v
  hi : ∀ v ∈ KR, reg v < count
  slo : ∀ v ∈ KS, 0 ≤ sl v
  rne : ∀ u ∈ KR, ∀ v ∈ KR, u ≠ v → ovl (spansP rows) u v = true → reg u ≠ reg v
  sne : ∀ u ∈ KS, ∀ v ∈ KS, u ≠ v → ovl (spansP rows) u v = true → sl u ≠ sl v
  none : KS = [] ↔ ∀ t : Nat, t ≤ 2 * rows.length → (aliveN (spansP rows) t : Int) ≤ count
theorem Law1.nd (h : Law1 rows count KR KS reg sl) : (KR ++ KS).Nodup := h.perm.nodup_iff.mpr (span_nodup rows _)
theorem Inv.init {sp : Lv} {V0 : List Int} {nk0 mk0 : Int → List Int} (hn : V0.Nodup) (hk : ∀ u ∈ V0, ∀ y, y ∈ nk0 u ↔ y ∈ V0 ∧ u ≠ y ∧ ovl sp u y = true) (hm : ∀ u ∈ V0, mk0 u = [u]) (hnn : ∀ u ∈ V0, (nk0 u).Nodup) : Inv sp V0 (V0, nk0, mk0) := by
  refine ⟨GP.init hn hk hm hnn, fun u hu x hx y hy hxy => ?_, fun u hu v hv => ?_⟩
  · dsimp only at hx hy
    rw [hm u hu] at hx hy
    simp at hx hy
    exact absurd (hx.trans hy.symm) hxy
  · dsimp only
    dsimp only at hu hv
    rw [hk u hu, hm u hu, hm v hv]
    simp only [List.mem_singleton, exists_eq_left]
    exact ⟨fun h => h.2, fun h => ⟨hv, h⟩⟩
theorem allK {V K ord : List Int} {nk mk : Int → List Int} (hord : ord.Perm V) (hsimp : SimpOk nk count ord) (hall : ∀ i v, ord[i]? = some v → (cnt nk v (ord.drop i) : Int) < count → v ∈ K) (hg : GKp count (V, nk, mk)) : ∀ v ∈ V, v ∈ K := fun v hv => by
  obtain ⟨i, hi⟩ := List.mem_iff_getElem?.mp (hord.mem_iff.mpr hv)
  have hin : v ∈ ord.drop i := (drop_step hi).mpr (.inl rfl)
  exact hall i v hi (hsimp i v hi (hg (ord.drop i) (fun e => by rw [e] at hin; cases hin) fun x hx => hord.mem_iff.mp (List.mem_of_mem_drop hx)))
theorem CRes.law1 (h : CRes rows count KR KS reg sl) (hw : WF rows) (h0 : 0 ≤ count) : Law1 rows count KR KS reg sl := by
  obtain ⟨V0, nk0, mk0, V, nk, mk, K, col, ord, hV0, hnk0, hmk0, hnn0, hrun, P, hord, hsimp, hcol, hKV, hall, hperm, hprop, hsl0, hsl⟩ := h
  have hn0 : V0.Nodup := hV0.nodup_iff.mpr (span_nodup rows _)
  have I0 := Inv.init hn0 hnk0 hmk0 hnn0
  have hc : ∀ r ∈ rows, (r.kind == "copy") = true → r.name ∈ V0 ∧ r.left ∈ V0 := fun r hr hk => by
    obtain ⟨h1, h2⟩ := hw.hcopy r hr hk
    exact ⟨hV0.mem_iff.mpr h1, hV0.mem_iff.mpr h2⟩
  obtain ⟨⟨_, apart, ex⟩, hgk⟩ := hrun.inv I0 hc
  dsimp only at apart ex
  have hnd : (KR ++ KS).Nodup := hperm.nodup_iff.mpr hn0
  have hdis : ∀ v, v ∈ KR → v ∈ KS → False := fun v h1 h2 => (List.nodup_append.mp hnd).2.2 v h1 v h2 rfl
  have hKR : ∀ v ∈ KR, ∃ u ∈ V, v ∈ mk u ∧ u ∈ K ∧ reg v = col u := fun v hv => by
    obtain ⟨u, hu, hvu⟩ := P.held (hperm.mem_iff.mp (List.mem_append_left _ hv))
    by_cases hK : u ∈ K
    · exact ⟨u, hu, hvu, hK, ((hprop u hu v hvu).1 hK).2⟩
    · exact absurd ((hprop u hu v hvu).2 hK) (hdis v hv)
  have rne : ∀ u ∈ KR, ∀ v ∈ KR, u ≠ v → ovl (spansP rows) u v = true → reg u ≠ reg v := fun u hu v hv hne ho => by
    obtain ⟨p, hp, hup, hpK, e1⟩ := hKR u hu
    obtain ⟨q, hq, hvq, hqK, e2⟩ := hKR v hv
    rw [e1, e2]
    by_cases e : p = q
    · subst e
      have := apart p hp u hup v hvq hne
      rw [ho] at this; cases this
    · exact hcol.ne p hpK q hqK ((ex p hp q hq).mpr ⟨e, u, hup, v, hvq, ho⟩)
  have lo : ∀ v ∈ KR, 0 ≤ reg v := fun v hv => by obtain ⟨u, _, _, hK, e⟩ := hKR v hv; rw [e]; exact hcol.lo u hK
  have hi : ∀ v ∈ KR, reg v < count := fun v hv => by obtain ⟨u, _, _, hK, e⟩ := hKR v hv; rw [e]; exact hcol.hi u hK
  refine ⟨hperm.trans hV0, lo, hi, hsl0, rne, hsl, ?_⟩
  constructor
  · rintro rfl t _
    rw [List.append_nil] at hperm hnd
    have hmem : ∀ v ∈ (spansP rows).map (·.1), v ∈ KR := fun v hv => hperm.mem_iff.mpr (hV0.mem_iff.mpr hv)
    have hlen : aliveN (spansP rows) t = ((((spansP rows).map (·.1)).filter (aliveAt (spansP rows) t)).map reg).length := by
      rw [List.length_map]; rfl
    rw [hlen]
    refine range_len ?_ (fun x hx => ?_) h0
    · rw [List.nodup_iff_pairwise_ne, List.pairwise_map]
      have hp : (((spansP rows).map (·.1)).filter (aliveAt (spansP rows) t)).Pairwise (fun u v => u ≠ v) := List.nodup_iff_pairwise_ne.mp ((span_nodup rows _).filter _)
      refine List.Pairwise.imp_of_mem (fun {u v} hu hv hne => ?_) hp
      rw [List.mem_filter] at hu hv
      exact rne u (hmem u hu.1) v (hmem v hv.1) hne (ovl_of_alive hu.2 hv.2)
    · obtain ⟨v, hv, rfl⟩ := List.mem_map.mp hx
      have := hmem v (List.mem_filter.mp hv).1
      exact ⟨lo v this, hi v this⟩
  · intro ha
    have hK := allK (mk := mk) hord hsimp hall (hgk (GKp.init hw hV0 hnk0 hnn0 ha))
    rw [List.eq_nil_iff_forall_not_mem]
    intro v hv
    obtain ⟨u, hu, hvu⟩ := P.held (hperm.mem_iff.mp (List.mem_append_right _ hv))
    exact hdis v ((hprop u hu v hvu).1 (hK u hu)).1 hv
/-- the sides of the copies -/
def sidesOf (r : Row) : List Int := if (r.kind == "copy") = true then [r.name, r.left] else []
def sides (rows : List Row) : List Int := rows.flatMap sidesOf
theorem sides_apart {pre post : List Row} {r : Row} (hk : (r.kind == "copy") = true) (h1 : (sides (pre ++ r :: post)).count r.name = 1) (h2 : (sides (pre ++ r :: post)).count r.left = 1) :
    r.name ≠ r.left ∧ ∀ q ∈ pre ++ post, (q.kind == "copy") = true → (q.name ≠ r.name ∧ q.left ≠ r.name) ∧ (q.name ≠ r.left ∧ q.left ≠ r.left) := by
  have e : ∀ v, (sides (pre ++ r :: post)).count v = (sides (pre ++ post)).count v + ([r.name, r.left] : List Int).count v := fun v => by
    unfold sides
    rw [List.flatMap_append, List.flatMap_append, List.flatMap_cons, List.count_append, List.count_append, List.count_append]
    rw [show sidesOf r = [r.name, r.left] from if_pos hk] <;> omega
  have c1 : ([r.name, r.left] : List Int).count r.name = 1 + (if r.left = r.name then 1 else 0) := by
    simp only [List.count_cons, List.count_nil, beq_self_eq_true, if_true, beq_iff_eq] <;> omega
  have c2 : ([r.name, r.left] : List Int).count r.left = 1 + (if r.name = r.left then 1 else 0) := by
    simp only [List.count_cons, List.count_nil, beq_self_eq_true, if_true, beq_iff_eq] <;> omega
  rw [e, c1] at h1
  rw [e, c2] at h2
  have z1 : (sides (pre ++ post)).count r.name = 0 := by omega
  have z2 : (sides (pre ++ post)).count r.left = 0 := by omega
  rw [List.count_eq_zero] at z1 z2
  refine ⟨fun e => ?_, fun q hq hkq => ?_⟩
  · rw [if_pos e] at h2; omega
  · have m1 : q.name ∈ sides (pre ++ post) := List.mem_flatMap.mpr ⟨q, hq, by unfold sidesOf; rw [if_pos hkq]; simp⟩
    have m2 : q.left ∈ sides (pre ++ post) := List.mem_flatMap.mpr ⟨q, hq, by unfold sidesOf; rw [if_pos hkq]; simp⟩
    exact ⟨⟨fun e => z1 (e ▸ m1), fun e => z1 (e ▸ m2)⟩, fun e => z2 (e ▸ m1), fun e => z2 (e ▸ m2)⟩
theorem CRes.law2 (h : CRes rows (rows.length + 1) KR KS reg sl) (hw : WF rows) {i : Nat} {r : Row} (hr : rows[i]? = some r) (hk : (r.kind == "copy") = true) (ho : ovl (spansP rows) r.name r.left = false)
    (h1 : (sides rows).count r.name = 1) (h2 : (sides rows).count r.left = 1) : r.name ∈ KR ∧ r.left ∈ KR ∧ reg r.name = reg r.left := by
  have h' := h.law1 hw (by omega)
  obtain ⟨V0, nk0, mk0, V, nk, mk, K, col, ord, hV0, hnk0, hmk0, hnn0, hrun, P, hord, hsimp, hcol, hKV, hall, hperm, hprop, hsl0, hsl⟩ := h
  have hn0 : V0.Nodup := hV0.nodup_iff.mpr (span_nodup rows _)
  have I0 := Inv.init hn0 hnk0 hmk0 hnn0
  have hc : ∀ r ∈ rows, (r.kind == "copy") = true → r.name ∈ V0 ∧ r.left ∈ V0 := fun r hr hk => by
    obtain ⟨h1, h2⟩ := hw.hcopy r hr hk
    exact ⟨hV0.mem_iff.mpr h1, hV0.mem_iff.mpr h2⟩
  have hlen : (spansP rows).length ≤ rows.length := spansN_length rows hw.hwf _
  have hKS : KS = [] := h'.none.mpr fun t _ => by
    have : aliveN (spansP rows) t ≤ (spansP rows).length := by
      unfold aliveN
      refine Nat.le_trans (List.length_filter_le _ _) ?_
      rw [List.length_map]; exact Nat.le_refl _
    omega
  have hsplit : rows = rows.take i ++ r :: rows.drop (i + 1) := by
    obtain ⟨hl, e⟩ := List.getElem?_eq_some_iff.mp hr
    have := List.drop_eq_getElem_cons hl
    rw [e] at this
    rw [← this, List.take_append_drop]
  have hs1 := h1
  have hs2 := h2
  rw [hsplit] at hs1 hs2
  obtain ⟨hne, hap⟩ := sides_apart hk hs1 hs2
  have hV0l : (V0.length : Int) < (rows.length + 1 : Int) := by
    rw [hV0.length_eq, List.length_map]; omega
  obtain ⟨u, hu, hu1, hu2⟩ := hrun.joined I0 hn0 (fun v hv => ⟨hv, hmk0 v hv⟩) hc hk ho hne hV0l _ _ hsplit hap
  dsimp only at hu hu1 hu2
  have huK : u ∈ K := by
    by_cases hK : u ∈ K
    · exact hK
    · have := (hprop u hu _ hu1).2 hK
      rw [hKS] at this; cases this
  have k1 := (hprop u hu _ hu1).1 huK
  have k2 := (hprop u hu _ hu2).1 huK
  exact ⟨k1.1, k2.1, k1.2.trans k2.2.symm⟩
end
end Mine
namespace Mine
set_option linter.unusedSectionVars false
set_option linter.unusedVariables false
set_option linter.unusedSimpArgs false
set_option maxRecDepth 100000
section
variable {rows : List Row}
def readE (rows : List Row) (i : Nat) (r : Row) (j : Nat) : Lv := ((reads r).take j).foldl (useStep i) (spansN rows i)
theorem readE_zero {i : Nat} {r : Row} : readE rows i r 0 = spansN rows i := rfl
theorem readE_all {i : Nat} {r : Row} (hw : WF rows) (hr : rows[i]? = some r) : readE rows i r (reads r).length = (uses r).foldl (useStep i) (spansN rows i) := by
  unfold readE
  rw [List.take_length]; exact fold_reads (hw.kinds r (List.mem_of_getElem? hr)) i _
theorem read_known (hw : WF rows) {i : Nat} {r : Row} (hr : rows[i]? = some r) : ∀ v ∈ reads r, (getK (spansN rows i) v).isSome = true := fun v hv =>
  ((span_inv hw i (Nat.le_of_lt (lt_of_get hr))).1 v).mpr (hw.used i r hr v hv)
theorem readE_length (hw : WF rows) {i : Nat} {r : Row} (hr : rows[i]? = some r) (j : Nat) : (readE rows i r j).length ≤ i := by
  unfold readE
  rw [useFold_length i _ _ fun v hv => read_known hw hr v (List.mem_of_mem_take hv)]
  exact spansN_length rows hw.hwf i
theorem read_get (hw : WF rows) {i j : Nat} {r : Row} {x : Int} (hr : rows[i]? = some r) (hx : (reads r)[j]? = some x) :
    ∃ p, getK (readE rows i r j) x = some p ∧ getK (tm (readE rows i r j)) x = some (.int (mask p)) ∧ 0 ≤ p.1 ∧ p.1 ≤ p.2 ∧ p.1 ≤ 2 * i ∧ p.2 ≤ 2 * i := by
  have hxm := List.mem_of_getElem? hx
  have hk := read_known hw hr
  obtain ⟨q, hq⟩ := Option.isSome_iff_exists.mp (hk x hxm)
  have hb := (span_inv hw i (Nat.le_of_lt (lt_of_get hr))).2 x q hq
  have hg := fold_get i ((reads r).take j) (spansN rows i) x fun u hu => hk u (List.mem_of_mem_take hu)
  rw [hq] at hg
  have fin : ∀ p, getK (readE rows i r j) x = some p → 0 ≤ p.1 ∧ p.1 ≤ p.2 ∧ p.1 ≤ 2 * (i : Int) ∧ p.2 ≤ 2 * (i : Int) → ∃ p, getK (readE rows i r j) x = some p ∧ getK (tm (readE rows i r j)) x = some (.int (mask p)) ∧ 0 ≤ p.1 ∧ p.1 ≤ p.2 ∧ p.1 ≤ 2 * i ∧ p.2 ≤ 2 * i := fun p h1 h2 =>
    ⟨p, h1, by rw [getK_tm, h1]; rfl, h2⟩
  split at hg
  · exact fin _ hg (by simp only [Option.getD_some]; omega)
  · exact fin _ hg (by omega)
theorem read_set {i j : Nat} {r : Row} {x : Int} {p : Int × Int} (hx : (reads r)[j]? = some x) (hp : getK (readE rows i r j) x = some p) (h0 : 0 ≤ p.1) (h1 : p.1 ≤ p.2) (h2 : p.1 ≤ 2 * i) (h3 : p.2 ≤ 2 * i) (hi : i < 18) :
    setK (tm (readE rows i r j)) x (.int (1 * 2 ^ (2 * (i : Int) + 1).toNat - Builtin.bitAnd (mask p) (-(mask p)))) = tm (readE rows i r (j + 1)) := by
  rw [mask_lowest h0 h1 (by omega), mask_read h0 h2, setK_tm]
  unfold readE at hp ⊢
  rw [foldl_take_succ _ _ _ _ _ hx]
  congr 1
  exact (useStep_eq hp).symm
theorem def_set (hw : WF rows) {i : Nat} {r : Row} (hr : rows[i]? = some r) (ho : r.isOut = false) : setK (tm (readE rows i r (reads r).length)) r.name (.int (1 * 2 ^ (2 * (i : Int) + 1).toNat)) = tm (spansN rows (i + 1)) := by
  rw [mask_def (by omega), setK_tm, readE_all hw hr, spansN_succ hr]
  unfold spStep
  dsimp only
  rw [defOf_in ho, if_pos (hw.fresh i r hr ho).1]
theorem out_set (hw : WF rows) {i : Nat} {r : Row} (hr : rows[i]? = some r) (ho : r.isOut = true) : tm (readE rows i r (reads r).length) = tm (spansN rows (i + 1)) := by
  rw [readE_all hw hr, spansN_succ hr]
  unfold spStep
  dsimp only
  rw [defOf_out ho, if_neg (by omega)]
/-- a moment's bit -/
theorem mask_at {p : Int × Int} (t : Nat) (h0 : 0 ≤ p.1) (h1 : p.1 ≤ p.2) : Builtin.bitAnd (mask p / 2 ^ t) 1 = if (decide (p.1 ≤ t) && decide ((t : Int) ≤ p.2)) = true then 1 else 0 := by
  have e : mask p / 2 ^ t = ((maskN p.1.toNat p.2.toNat / 2 ^ t : Nat) : Int) := by unfold mask; norm_cast
  rw [e, show (1 : Int) = ((1 : Nat) : Int) from rfl, bitAnd_nat, Nat.and_one_is_mod, ← mask_bit h0 h1, Nat.testBit_eq_decide_div_mod_eq]
  have := Nat.mod_two_eq_zero_or_one (maskN p.1.toNat p.2.toNat / 2 ^ t)
  rcases this with h | h <;> rw [h] <;> rfl
theorem mask_and_zero {a b : Nat} (h : ∀ i, a.testBit i = true → b.testBit i = true → False) : a &&& b = 0 := by
  apply Nat.eq_of_testBit_eq
  intro i
  rw [Nat.testBit_and, Nat.zero_testBit]
  cases h1 : a.testBit i <;> cases h2 : b.testBit i <;> simp
  exact h i h1 h2
theorem mask_apart {p q : Int × Int} (h0 : 0 ≤ p.1) (h1 : p.1 ≤ p.2) (k0 : 0 ≤ q.1) (k1 : q.1 ≤ q.2) : (Builtin.bitAnd (mask p) (mask q) == 0) = !(decide (p.1 ≤ q.2) && decide (q.1 ≤ p.2)) := by
  unfold mask
  rw [bitAnd_nat]
  cases e : (decide (p.1 ≤ q.2) && decide (q.1 ≤ p.2)) with
  | false =>
    rw [mask_and_zero]
    · rfl
    · intro i hi hj
      rw [mask_bit h0 h1] at hi
      rw [mask_bit k0 k1] at hj
      simp only [Bool.and_eq_true, Bool.and_eq_false_iff, decide_eq_true_eq, decide_eq_false_iff_not] at *
      omega
  | true =>
    simp only [Bool.not_true, beq_eq_false_iff_ne, ne_eq]
    intro hz
    have hz' : maskN p.1.toNat p.2.toNat &&& maskN q.1.toNat q.2.toNat = 0 := by exact_mod_cast hz
    simp only [Bool.and_eq_true, decide_eq_true_eq] at e
    have hb : (maskN p.1.toNat p.2.toNat &&& maskN q.1.toNat q.2.toNat).testBit (max p.1 q.1).toNat = true := by
      rw [Nat.testBit_and, mask_bit h0 h1, mask_bit k0 k1]
      simp only [Bool.and_eq_true, decide_eq_true_eq]
      omega
    rw [hz', Nat.zero_testBit] at hb
    cases hb
end
end Mine
namespace Mine
set_option linter.unusedSectionVars false
set_option linter.unusedVariables false
set_option maxRecDepth 100000
set_option maxHeartbeats 1000000
def rowD (r : Row) : PyData := .tuple [.str r.kind, .int r.name, .int r.left, .int r.right]
def rowsD (rows : List Row) : PyData := .list (rows.map rowD)
theorem rowsD_self : ∀ rows : List Row, PyData.eqvAll (rows.map rowD) (rows.map rowD) = true
  | [] => by simp [PyData.eqvAll]
  | r :: rest => by simp [PyData.eqvAll, PyData.eqv, rowD, rowsD_self rest]
theorem rowsD_lay : ∀ rows : List Row, (∀ r ∈ rows, PyData.strOk r.kind = true) → PyData.canLayAll0 (rows.map rowD) = true
  | [], _ => by simp [PyData.canLayAll0]
  | r :: rest, h => by simp [PyData.canLayAll0, PyData.canLay0, rowD, h r List.mem_cons_self, rowsD_lay rest fun q hq => h q (List.mem_cons_of_mem _ hq)]
theorem rowsD_depth : ∀ rows : List Row, PyData.depthAll (rows.map rowD) ≤ 1
  | [] => by simp [PyData.depthAll]
  | r :: rest => by
    have := rowsD_depth rest
    simp [PyData.depthAll, PyData.depth, rowD]; omega
theorem rowsD_shaped {rows : List Row} (h : ∀ r ∈ rows, PyData.strOk r.kind = true) : SeqAt.shaped (rowsD rows) = true := by
  have h1 := rowsD_lay rows h
  have h2 := rowsD_depth rows
  simp only [SeqAt.shaped, rowsD, PyData.canLay0, PyData.depth, h1, Bool.true_and, decide_eq_true_eq]; omega
def KVs : List (Str × AV) → List (Value × Value) → Prop
  | [], [] => True
  | (k, a) :: es, (kv, v) :: vs => (∃ t, kv = .str k t) ∧ a.is v ∧ KVs es vs
  | _, _ => False
theorem KVs.carries {w : World} {es : List (Str × AV)} : ∀ {vs : List (Value × Value)}, KVs es vs → ∃ kvs, Carries (strKind PG w) vs kvs ∧ AVk es kvs := by
  induction es with
  | nil =>
    intro vs h
    cases vs with
    | nil => exact ⟨[], trivial, trivial⟩
    | cons p r => exact h.elim
  | cons p es ih =>
    intro vs h
    obtain ⟨k, a⟩ := p
    cases vs with
    | nil => exact h.elim
    | cons q vs =>
    obtain ⟨kv, v⟩ := q
    obtain ⟨⟨t, rfl⟩, iv, h⟩ := h
    obtain ⟨kvs, h1, h2⟩ := ih h
    exact ⟨(k, v) :: kvs, ⟨strKind_is _ _ _ _, rfl, h1⟩, ⟨rfl, iv, h2⟩⟩
section
variable {w : World} {A : Around} {z s : Shared} {h₀ : Heap} {L : Addr} {l : List (Str × AV)} {cs : List (Addr × Obj)} {n : Nat} {env : Env}
theorem reads_rows (S : St z h₀ L l cs s) : ∀ (as : List Addr) (rows : List Row), as.length = rows.length → (∀ (i : Nat) (r : Row), rows[i]? = some r → ∃ a o, as[i]? = some a ∧ (a, o) ∈ cs ∧ TI o r.avs) → ∃ bs, ReadsAll s.heap (as.map .ref) (rows.map rowD) bs
  | [], [], _, _ => ⟨_, .nil⟩
  | a :: as, r :: rows, hl, h => by
    obtain ⟨bs, hbs⟩ := reads_rows S as rows (by simpa using hl) fun i q hq => by
      obtain ⟨a', o, h1, h2, h3⟩ := h (i + 1) q (by simpa using hq)
      exact ⟨a', o, by simpa using h1, h2, h3⟩
    obtain ⟨a', o, h1, h2, ⟨vs, ep, rfl, hv⟩⟩ := h 0 r rfl
    simp only [List.getElem?_cons_zero, Option.some.injEq] at h1
    subst h1
    obtain ⟨t1, t2, t3, t4, rfl⟩ := AVs.four hv
    exact ⟨_, .cons (reads_tuple_at (S.news _ h2).1 rfl rfl (.cons (.str _ _) (.cons (.int _ _) (.cons (.int _ _) (.cons (.int _ _) .nil))))) hbs⟩
theorem r_ne_rows {a b : Addr} {oa ob : Obj} {rows : List Row} {Q : Value → Shared → Prop} (C : Cx w A h₀ L (n + 5)) (S : St z h₀ L l cs s) (ha : RowsAt cs a oa rows) (hb : RowsAt cs b ob rows) (hk : ∀ r ∈ rows, PyData.strOk r.kind = true)
    (h : Q (.bool false) s) : WP w A (compareOp .NotEq (.ref a) (.ref b)) Q s := by
  obtain ⟨ha1, as, ⟨vs, ep, rfl, hv⟩, ha3, ha4⟩ := ha
  obtain ⟨hb1, bs, ⟨us, eq, rfl, hu⟩, hb3, hb4⟩ := hb
  have e1 := AVs.refs hv
  have e2 := AVs.refs hu
  subst e1 e2
  obtain ⟨xs, hxs⟩ := reads_rows S as rows ha3 ha4
  obtain ⟨ys, hys⟩ := reads_rows S bs rows hb3 hb4
  refine ne_dataH (da := rowsD rows) (db := rowsD rows) (reads_list_at (S.news _ ha1).1 rfl rfl hxs) (reads_list_at (S.news _ hb1).1 rfl rfl hys) (rowsD_shaped hk) (rowsD_shaped hk) (by have := C.units; unfold cLine; omega) ?_
  have e : PyData.eqv (rowsD rows) (rowsD rows) = true := by simp only [rowsD, PyData.eqv]; exact rowsD_self rows
  rw [e]; exact h

def DEnd (z : Shared) (h₀ : Heap) (L : Addr) (w : World) (D : Addr) (Q : Value → Shared → Prop) (vs : List (Value × Value)) (s : Shared) : Prop :=
  ∃ (l : List (Str × AV)) (cs : List (Addr × Obj)) (g : Obj → List (Addr × Obj)) (es : List (Str × AV)), At D emptyDict cs g ∧ St z h₀ L l cs s ∧ KVs es vs ∧ (es.map (·.1)).Nodup ∧ ∀ o' s', DS w o' es → St z h₀ L l (g o') s' → Q (.ref D) s'
theorem r_strdict {keys : List (Option Expr)} {values : List Expr} {pos : Pos} {Q : Value → Shared → Prop} (C : Cx w A h₀ L n) (S : St z h₀ L l cs s)
    (hall : keys.all (·.isSome) = true) (hl : keys.length = values.length) (h0 : keys ≠ []) (hlen : keys.length ≤ 15)
    (h : ∀ D s1, St z h₀ L l ((D, emptyDict) :: cs) s1 → WP w A (evalPairs (pairTrees keys values env pos)) (DEnd z h₀ L w D Q) s1) :
    WP w A (eval (.Dict keys values pos) env) Q s := by
  obtain ⟨m, F, hlo⟩ := S.fr
  refine Dict_made (knd := strKind PG w) F hall hl h0 hlen fun F1 => ?_
  have S1 := S.alloc (D := s.heap.objs.size) (tk := s.toks) (h' := s.heap.push emptyDict) (o := emptyDict) C rfl (fun b x q => Heap.get?_push_of_some _ q) (Heap.get?_push_size _ rfl)
  refine wpAny_mono (h _ _ S1) (fun vs s2 hq => ?_) fun _ _ e => e
  obtain ⟨l2, cs2, g, es, U, S2, hkv, hnd, hfin⟩ := hq
  obtain ⟨kvs, hc, hav⟩ := hkv.carries (w := w)
  have hm := S2.news _ U.mem
  refine ⟨kvs, hc, Heap.dictOf_iff.mpr ⟨_, hm.1, ?_⟩, fun h' hd hs => ?_⟩
  · have := Heap.dictOf_iff.mp (Heap.DictOf.new (knd := strKind PG w) s.heap)
    obtain ⟨o, ho, hd⟩ := this
    rw [Heap.get?_push_size _ rfl] at ho
    cases ho; exact hd
  · rw [merged_nil_of_nodup _ (by rw [hav.keys]; exact hnd)] at hd
    obtain ⟨o', ho', hd'⟩ := Heap.dictOf_iff.mp hd
    exact hfin o' _ ⟨kvs, hd', hav⟩ (S2.update U hs ho' fun _ => ⟨_, _, rfl⟩)
end
end Mine
namespace Mine
set_option linter.unusedSectionVars false
set_option linter.unusedVariables false
set_option linter.unusedSimpArgs false
set_option maxRecDepth 100000
theorem setK_kf_any {V : List Int} {f : Int → AV} {v : Int} {x : AV} : setK (kf V f) v x = kf (addS V v) (fun u => if u = v then x else f u) := by
  unfold addS
  split
  · rename_i h; exact setK_kf_old h
  · rename_i h
    have := setK_kf_new (f := f) (g := fun u => if u = v then x else f u) h fun u hu => by
      have : u ≠ v := fun e => h (e ▸ hu)
      simp [this]
    simpa using this
def spot (KR : List Int) (reg sl : Int → Int) (v : Int) : Int := if v ∈ KR then 2 * reg v else 2 * sl v + 1
section
variable {rows : List Row} {count : Int} {KR KS : List Int} {reg sl : Int → Int}
theorem Law1.one (h : Law1 rows count KR KS reg sl) {v : Int} (hv : v ∈ (spansP rows).map (·.1)) : v ∈ KR ∨ v ∈ KS := List.mem_append.mp (h.perm.mem_iff.mpr hv)
theorem Law1.not (h : Law1 rows count KR KS reg sl) {v : Int} (h1 : v ∈ KR) (h2 : v ∈ KS) : False := (List.nodup_append.mp h.nd).2.2 v h1 v h2 rfl
theorem Law1.spot_ne (h : Law1 rows count KR KS reg sl) {u v : Int} (hu : u ∈ (spansP rows).map (·.1)) (hv : v ∈ (spansP rows).map (·.1)) (hne : u ≠ v) (ho : ovl (spansP rows) u v = true) : spot KR reg sl u ≠ spot KR reg sl v := by
  unfold spot
  by_cases h1 : u ∈ KR <;> by_cases h2 : v ∈ KR
  · have := h.rne u h1 v h2 hne ho
    rw [if_pos h1, if_pos h2]; omega
  · rw [if_pos h1, if_neg h2]; omega
  · rw [if_neg h1, if_pos h2]; omega
  · have := h.sne u ((h.one hu).resolve_left h1) v ((h.one hv).resolve_left h2) hne ho
    rw [if_neg h1, if_neg h2]; omega
/-- the places taken so far -/
structure Tk (sp : Lv) (f : Int → Int) (T ks : List Int) (m : Int → Nat) : Prop where
  bit : ∀ q ∈ ks, ∀ i, (m q).testBit i = true → ∃ u ∈ T, f u = q ∧ aliveAt sp i u = true
  len : ks.length ≤ T.length
def cur (ks : List Int) (m : Int → Nat) (q : Int) : Nat := if q ∈ ks then m q else 0
theorem tk_get {ks : List Int} {m : Int → Nat} {q : Int} : (getK (kf ks fun q => .int (m q)) q).getD (.int 0) = .int (cur ks m q) := by
  unfold cur
  split
  · rename_i h; rw [getK_kf h]; rfl
  · rename_i h
    have : (getK (kf ks fun q => AV.int (m q)) q).isSome = false := by rw [isSome_kf]; simpa using h
    rw [Option.isSome_eq_false_iff, Option.isNone_iff_eq_none] at this
    rw [this]; rfl
theorem Tk.cur_bit {sp : Lv} {f : Int → Int} {T ks : List Int} {m : Int → Nat} (h : Tk sp f T ks m) {q : Int} {i : Nat} (hb : (cur ks m q).testBit i = true) : ∃ u ∈ T, f u = q ∧ aliveAt sp i u = true := by
  unfold cur at hb
  split at hb
  · rename_i hq; exact h.bit q hq i hb
  · rw [Nat.zero_testBit] at hb; cases hb
theorem WF.alive_bit (hw : WF rows) {v : Int} (hv : v ∈ (spansP rows).map (·.1)) (i : Nat) : (maskN (lifeOf (spansP rows) v).1.toNat (lifeOf (spansP rows) v).2.toNat).testBit i = aliveAt (spansP rows) i v := by
  obtain ⟨_, l1, l2, _⟩ := hw.life hv
  exact mask_bit l1 l2
theorem Tk.and (hw : WF rows) (hl : Law1 rows count KR KS reg sl) {T ks : List Int} {m : Int → Nat} (h : Tk (spansP rows) (spot KR reg sl) T ks m) {v : Int} (hv : v ∈ (spansP rows).map (·.1)) (hT : ∀ u ∈ T, u ∈ (spansP rows).map (·.1)) (hn : v ∉ T) :
    Builtin.bitAnd (cur ks m (spot KR reg sl v)) (mask (lifeOf (spansP rows) v)) = 0 := by
  unfold mask
  rw [bitAnd_nat, mask_and_zero]
  · rfl
  · intro i h1 h2
    obtain ⟨u, hu, e, ha⟩ := h.cur_bit h1
    rw [hw.alive_bit hv] at h2
    exact hl.spot_ne (hT u hu) hv (fun e => hn (e ▸ hu)) (ovl_of_alive ha h2) e
theorem Tk.set (hw : WF rows) {f : Int → Int} {T ks : List Int} {m : Int → Nat} (h : Tk (spansP rows) f T ks m) {v : Int} (hv : v ∈ (spansP rows).map (·.1)) :
    ∃ m' : Int → Nat, setK (kf ks fun q => .int (m q)) (f v) (.int (Builtin.bitOr (cur ks m (f v)) (mask (lifeOf (spansP rows) v)))) = kf (addS ks (f v)) (fun q => .int (m' q)) ∧ Tk (spansP rows) f (T ++ [v]) (addS ks (f v)) m' := by
  refine ⟨fun q => if q = f v then cur ks m (f v) ||| maskN (lifeOf (spansP rows) v).1.toNat (lifeOf (spansP rows) v).2.toNat else m q, ?_, fun q hq i hb => ?_, ?_⟩
  · rw [setK_kf_any]
    apply kf_congr
    intro q _
    unfold mask
    rw [bitOr_nat]
    by_cases e : q = f v
    · simp only [e, if_true]
    · simp only [e, if_false]
  · by_cases e : q = f v
    · subst e
      simp only [if_true, Nat.testBit_or, Bool.or_eq_true] at hb
      rcases hb with hb | hb
      · obtain ⟨u, hu, e, ha⟩ := h.cur_bit hb
        exact ⟨u, List.mem_append_left _ hu, e, ha⟩
      · rw [hw.alive_bit hv] at hb
        exact ⟨v, by simp, rfl, hb⟩
    · simp only [e, if_false] at hb
      rcases mem_addS.mp hq with hq | hq
      · exact absurd hq e
      · obtain ⟨u, hu, e, ha⟩ := h.bit q hq i hb
        exact ⟨u, List.mem_append_left _ hu, e, ha⟩
  · have := h.len
    unfold addS
    split <;> simp <;> omega
theorem Tk.nil {sp : Lv} {f : Int → Int} : Tk sp f [] [] (fun _ => 0) := ⟨fun q hq => (by cases hq), Nat.le_refl _⟩
theorem Law1.lens (h : Law1 rows count KR KS reg sl) : ((kf KR fun v => AV.int (reg v)).length : Int) + ((kf KS fun v => AV.int (sl v)).length : Int) = ((tm (spansP rows)).length : Int) := by
  have := h.perm.length_eq
  rw [List.length_append, List.length_map] at this
  rw [length_kf, length_kf, length_tm]; omega
theorem Law1.answer (h : Law1 rows count KR KS reg sl) (h0 : 0 ≤ count) {m : Int} (hm : ∀ count : Int, 0 ≤ count → (m ≤ count ↔ ∀ t : Nat, t ≤ 2 * rows.length → (aliveN (spansP rows) t : Int) ≤ count)) :
    ((((kf KS fun v => AV.int (sl v)).length : Int) == 0) == decide (m ≤ count)) = true := by
  have e : (((kf KS fun v => AV.int (sl v)).length : Int) == 0) = decide (KS = []) := by
    rw [length_kf, Bool.eq_iff_iff, beq_iff_eq, decide_eq_true_eq, ← List.length_eq_zero_iff]; omega
  rw [e, beq_iff_eq, Bool.eq_iff_iff, decide_eq_true_eq, decide_eq_true_eq, h.none, hm count h0]
end
end Mine
namespace Mine
set_option linter.unusedSectionVars false
set_option linter.unusedVariables false
set_option linter.unusedSimpArgs false
set_option maxRecDepth 100000
section
variable {rows : List Row} {KR KS : List Int} {reg sl : Int → Int}
theorem sides_take {i : Nat} {r : Row} (hr : rows[i]? = some r) : sides (rows.take (i + 1)) = sides (rows.take i) ++ sidesOf r := by
  unfold sides
  rw [List.take_add_one, hr, List.flatMap_append]; simp
theorem sides_len (i : Nat) : (sides (rows.take i)).length ≤ 2 * i := by
  induction i with
  | zero => simp [sides]
  | succ i ih =>
    cases h : rows[i]? with
    | none =>
      have e : rows.take (i + 1) = rows.take i := by rw [List.take_add_one, h]; simp
      rw [e]; omega
    | some r =>
      rw [sides_take h, List.length_append]
      unfold sidesOf
      split <;> simp <;> omega
theorem times_get (hw : WF rows) {i : Nat} {r : Row} (hr : rows[i]? = some r) : (r.kind == "copy") = true → getK (tm (spansP rows)) r.name = some (.int (mask (lifeOf (spansP rows) r.name))) ∧ getK (tm (spansP rows)) r.left = some (.int (mask (lifeOf (spansP rows) r.left))) := fun hk => by
  obtain ⟨h1, h2⟩ := hw.hcopy r (List.mem_of_getElem? hr) hk
  constructor
  · rw [getK_tm, (hw.life h1).1]; rfl
  · rw [getK_tm, (hw.life h2).1]; rfl
theorem share_law (h : CRes rows (rows.length + 1) KR KS reg sl) (hw : WF rows) {i : Nat} {r : Row} (hr : rows[i]? = some r) :
    (r.kind == "copy") = true → Builtin.bitAnd (mask (lifeOf (spansP rows) r.name)) (mask (lifeOf (spansP rows) r.left)) = 0 → (((sides rows).count r.name : Nat) : Int) = 1 → (((sides rows).count r.left : Nat) : Int) = 1 → r.name ∈ KR ∧ r.left ∈ KR ∧ reg r.name = reg r.left := fun hk hb h1 h2 => by
  obtain ⟨k1, k2⟩ := hw.hcopy r (List.mem_of_getElem? hr) hk
  obtain ⟨_, a1, a2, _⟩ := hw.life k1
  obtain ⟨_, b1, b2, _⟩ := hw.life k2
  have e := mask_apart a1 a2 b1 b2
  rw [hb] at e
  have ho : ovl (spansP rows) r.name r.left = false := by
    unfold ovl
    cases ho : (decide ((lifeOf (spansP rows) r.name).1 ≤ (lifeOf (spansP rows) r.left).2) && decide ((lifeOf (spansP rows) r.left).1 ≤ (lifeOf (spansP rows) r.name).2)) with
    | false => rfl
    | true => rw [ho] at e; exact absurd e (by decide)
  exact h.law2 hw hr hk ho (by omega) (by omega)
end
end Mine
namespace Mine
set_option linter.unusedSectionVars false
set_option linter.unusedVariables false
set_option linter.unusedSimpArgs false
set_option maxRecDepth 100000
def defdB (rows : List Row) (i : Nat) (v : Int) : Bool := (rows.take i).any fun q => !q.isOut && decide (q.name = v)
theorem defd_b {rows : List Row} {i : Nat} {v : Int} : Defd rows i v ↔ defdB rows i v = true := by
  unfold defdB
  rw [List.any_eq_true]
  constructor
  · rintro ⟨j, q, hj, hq, h1, h2⟩
    refine ⟨q, List.mem_take_iff_getElem.mpr ⟨j, ?_, ?_⟩, by rw [h1, h2]; simp⟩
    · have := lt_of_get hq; omega
    · obtain ⟨hl, e⟩ := List.getElem?_eq_some_iff.mp hq; exact e
  · rintro ⟨q, hq, h⟩
    obtain ⟨j, hj, e⟩ := List.mem_take_iff_getElem.mp hq
    simp only [Bool.and_eq_true, Bool.not_eq_true', decide_eq_true_eq] at h
    exact ⟨j, q, by omega, by rw [List.getElem?_eq_getElem (by omega), e], h.1, h.2⟩
def kindB (r : Row) : Bool := decide (r.kind = "in") || decide (r.kind = "copy") || decide (r.kind = "const") || decide (r.kind = "xor") || decide (r.kind = "out")
def rowB (rows : List Row) (i : Nat) : Bool := match rows[i]? with
  | none => true
  | some r => kindB r && (r.isOut || (decide (0 ≤ r.name) && !(defdB rows i r.name))) && (reads r).all (defdB rows i)
theorem WF.of {rows : List Row} {r0 : Row} (h : (List.range rows.length).all (rowB rows) = true) (h0 : rows[0]? = some r0) (h1 : r0.isOut = false) : WF rows := by
  rw [List.all_eq_true] at h
  have key : ∀ i r, rows[i]? = some r → kindB r = true ∧ (r.isOut = false → 0 ≤ r.name ∧ ¬ Defd rows i r.name) ∧ ∀ v ∈ reads r, Defd rows i v := fun i r hr => by
    have hb := h i (List.mem_range.mpr (lt_of_get hr))
    unfold rowB at hb
    rw [hr] at hb
    simp only [Bool.and_eq_true, Bool.or_eq_true, decide_eq_true_eq, Bool.not_eq_true', List.all_eq_true] at hb
    refine ⟨hb.1.1, fun ho => ?_, fun v hv => defd_b.mpr (hb.2 v hv)⟩
    rcases hb.1.2 with h2 | ⟨h2, h3⟩
    · rw [ho] at h2; cases h2
    · exact ⟨h2, fun hd => by rw [defd_b.mp hd] at h3; cases h3⟩
  refine ⟨fun r hr => ?_, fun i r hr => (key i r hr).2.1, fun i r hr => (key i r hr).2.2, ⟨r0, h0, h1⟩⟩
  obtain ⟨i, hi, e⟩ := List.mem_iff_getElem.mp hr
  have := (key i r (by rw [List.getElem?_eq_getElem hi, e])).1
  unfold kindB at this
  simp only [Bool.or_eq_true, decide_eq_true_eq] at this
  rcases this with (((h | h) | h) | h) | h
  · exact .inl h
  · exact .inr (.inl h)
  · exact .inr (.inr (.inl h))
  · exact .inr (.inr (.inr (.inl h)))
  · exact .inr (.inr (.inr (.inr h)))
def fixedRows : List Row := [⟨"in", 2, 0, 0⟩, ⟨"copy", 5, 2, 0⟩, ⟨"in", 9, 1, 0⟩, ⟨"xor", 4, 5, 9⟩, ⟨"xor", 7, 4, 5⟩, ⟨"out", 0, 7, 0⟩]
theorem fixed_wf : WF fixedRows := WF.of (r0 := ⟨"in", 2, 0, 0⟩) (by decide +kernel) rfl (by decide)
theorem WF.strs {rows : List Row} (hw : WF rows) : ∀ r ∈ rows, PyData.strOk r.kind = true := fun r hr => by
  rcases hw.kinds r hr with e | e | e | e | e <;> rw [e] <;> decide +kernel
theorem fixed_rows {cs : List (Addr × Obj)} {ra t1 t2 t3 t4 t5 t6 : Addr} {ro o1 o2 o3 o4 o5 o6 : Obj} (hra : (ra, ro) ∈ cs) (hro : LI ro [.ref t1, .ref t2, .ref t3, .ref t4, .ref t5, .ref t6])
    (m1 : (t1, o1) ∈ cs) (m2 : (t2, o2) ∈ cs) (m3 : (t3, o3) ∈ cs) (m4 : (t4, o4) ∈ cs) (m5 : (t5, o5) ∈ cs) (m6 : (t6, o6) ∈ cs)
    (h1 : TI o1 [.str "in", .int 2, .int 0, .int 0]) (h2 : TI o2 [.str "copy", .int 5, .int 2, .int 0]) (h3 : TI o3 [.str "in", .int 9, .int 1, .int 0]) (h4 : TI o4 [.str "xor", .int 4, .int 5, .int 9]) (h5 : TI o5 [.str "xor", .int 7, .int 4, .int 5]) (h6 : TI o6 [.str "out", .int 0, .int 7, .int 0]) :
    RowsAt cs ra ro fixedRows := by
  refine ⟨hra, [t1, t2, t3, t4, t5, t6], hro, rfl, fun i r hr => ?_⟩
  match i with
  | 0 => cases hr; exact ⟨t1, o1, rfl, m1, h1⟩
  | 1 => cases hr; exact ⟨t2, o2, rfl, m2, h2⟩
  | 2 => cases hr; exact ⟨t3, o3, rfl, m3, h3⟩
  | 3 => cases hr; exact ⟨t4, o4, rfl, m4, h4⟩
  | 4 => cases hr; exact ⟨t5, o5, rfl, m5, h5⟩
  | 5 => cases hr; exact ⟨t6, o6, rfl, m6, h6⟩
  | n + 6 => cases hr
end Mine
namespace Mine
set_option linter.unusedSectionVars false
set_option linter.unusedVariables false
set_option maxRecDepth 100000
set_option maxHeartbeats 1000000
theorem AVs.ofInts {vs : List Value} {ns : List Int} (h : IntsAre vs ns) : AVs (ns.map .int) vs := by
  induction h with
  | nil => trivial
  | cons n t _ ih => exact ⟨⟨t, rfl⟩, ih⟩
section
variable {w : World} {A : Around} {z s : Shared} {h₀ : Heap} {L : Addr} {l : List (Str × AV)} {cs : List (Addr × Obj)} {n : Nat} {env : Env}
/-- list of the script -/
theorem r_list_arg {d : Addr} {vs : List Value} {xs : List AV} {Q : Value → Shared → Prop} (C : Cx w A h₀ L n) (S : St z h₀ L l cs s) (hl : h₀.IsList d vs.toArray) (hv : AVs xs vs) (hn : xs.length < 1000)
    (h : ∀ r o' s', LI o' xs → St z h₀ L l ((r, o') :: cs) s' → Q (.ref r) s') : WP w A (call (.type "list") [.ref d]) Q s := by
  have e := hv.length
  obtain ⟨m, F, hm⟩ := S.fr
  obtain ⟨o, ho, hc, ep, hd⟩ := hl
  exact call_list_seq (items := vs.toArray) d (.inl rfl) (F.keep _ _ ho) hc hd (fun h' c' hk hD => h _ _ _ ⟨vs, c', rfl, hv⟩ (S.alloc C rfl hk hD)) (by rw [List.size_toArray, sizeLine_eq]; omega)
def TopK (z : Shared) (h₀ : Heap) (v : Value) (s : Shared) : Prop := v = .bool true ∧ (∀ b o, h₀.get? b = some o → s.heap.get? b = some o) ∧ s.os = z.os ∧ s.gens = z.gens
theorem TopK.intro (S : St z h₀ L l cs s) : TopK z h₀ (.bool true) s := by
  obtain ⟨m, F, _⟩ := S.fr
  exact ⟨rfl, F.keep, S.os, S.gens⟩
theorem r_top {base : Heap} {m : Str → Option Value} {p : Program} {loose : List Str} {mg mb : Str → Option Value} {name : Str} {scope : Scope} {f a : Addr} {cd : Value} (KX : (hd.heap_1 w.params).In h₀) (T : TopRead p loose mg mb h₀) (K0 : Below callerA base [] h₀) (F : Fr h₀ L s.heap m) (hm : m "script" = some (.ref a)) (hk : scope.kind = .function) (hn : n < 100) (e1 : s.gens = z.gens) (e2 : s.os = z.os) :
    Cx w (callerA.deeper (envX name scope L f cd [])) h₀ L n ∧ St z h₀ L [("script", .ref a)] [] s := by
  refine ⟨⟨KX, ⟨_, _, _, _, T⟩, ⟨callerA, base, [], _, K0, Around.frames_deeper K0.stack, rfl, hk⟩, ?_, ?_, rfl⟩, e1, e2, ⟨m, F, fun p hp => ?_⟩, by simp, fun p hp => (by cases hp), by simp, fun c hc => (by cases hc)⟩
  · show 1 + claimMargin + 1 + n < 1000
    unfold claimMargin; omega
  · show 4 + 3 + 20 * n < 9900
    omega
  · simp at hp; subst hp; exact ⟨_, hm, rfl⟩
theorem r_start {base : Heap} {m : Str → Option Value} {p : Program} {loose : List Str} {mg mb : Str → Option Value} {name : Str} {scope : Scope} {f a : Addr} {cd : Value} {body : List Stmt} {Q : Flow → Shared → Prop} (KX : (hd.heap_1 w.params).In h₀) (T : TopRead p loose mg mb h₀) (K0 : Below callerA base [] h₀) (F : Fr h₀ L s.heap m) (hm : m "script" = some (.ref a)) (hk : scope.kind = .function) (e1 : s.gens = z.gens) (e2 : s.os = z.os)
    (h : ∀ A', Cx w A' h₀ L 60 → St z h₀ L [("script", .ref a)] [] s → WP w A' (execs body (envX name scope L f cd [])) Q s) :
    WP w (callerA.deeper (envX name scope L f cd [])) (execs body (envX name scope L f cd [])) Q s :=
  let ⟨C, S⟩ := r_top KX T K0 F hm hk (by omega) e1 e2
  h _ C S
end
end Mine
namespace Mine
set_option linter.unusedSectionVars false
set_option linter.unusedVariables false
set_option maxRecDepth 100000
set_option maxHeartbeats 1000000
section
variable {w : World} {A : Around} {z s : Shared} {h₀ : Heap} {L : Addr} {l : List (Str × AV)} {cs : List (Addr × Obj)} {n : Nat} {env : Env}
/-- what is asked behind the first value of the display -/
def StEnd (z : Shared) (h₀ : Heap) (L : Addr) (w : World) (D : Addr) (Q : Value → Shared → Prop) (v : Value) (s : Shared) : Prop :=
  ∃ (l : List (Str × AV)) (cs : List (Addr × Obj)) (g : Obj → List (Addr × Obj)) (c : Addr), v = .ref c ∧ At D emptyDict cs g ∧ St z h₀ L l cs s ∧
    ∀ o' s', DS w o' [("cells", .ref c), ("at", .int 0), ("rest", .int 0)] → St z h₀ L l (g o') s' → Q (.ref D) s'
theorem r_state {e : Expr} {pos p1 p2 p3 p4 p5 : Pos} {k1 k2 k3 k4 k5 : Nat} {Q : Value → Shared → Prop} (C : Cx w A h₀ L n) (S : St z h₀ L l cs s)
    (h : ∀ D s1, St z h₀ L l ((D, emptyDict) :: cs) s1 → WP w A (eval e env) (StEnd z h₀ L w D Q) s1) :
    WP w A (eval (.Dict [some (.Constant (.str "cells") k1 p1), some (.Constant (.str "at") k2 p2), some (.Constant (.str "rest") k3 p3)] [e, .Constant (.int 0) k4 p4, .Constant (.int 0) k5 p5] pos) env) Q s := by
  refine r_strdict C S rfl rfl (List.cons_ne_nil _ _) (Nat.le_of_ble_eq_true rfl) fun D s1 S1 => ?_
  refine pairTrees_cons_walk (r_const_str S1 fun t s2 S2 => wpAny_mono (h D s2 S2) (fun v s3 h3 => ?_) fun _ _ e => e)
  obtain ⟨l3, cs3, g, c, rfl, U, S3, hq⟩ := h3
  refine pairTrees_cons_walk (r_const_str S3 fun t4 s4 S4 => r_const_int S4 fun t5 s5 S5 => ?_)
  refine pairTrees_cons_walk (r_const_str S5 fun t6 s6 S6 => r_const_int S6 fun t7 s7 S7 => ?_)
  refine pairTrees_nil_walk ?_
  exact ⟨l3, cs3, g, [("cells", .ref c), ("at", .int 0), ("rest", .int 0)], U, S7, ⟨⟨_, rfl⟩, rfl, ⟨_, rfl⟩, ⟨_, rfl⟩, ⟨_, rfl⟩, ⟨_, rfl⟩, trivial⟩, by simp only [List.map_cons, List.map_nil]; decide, hq⟩
theorem sa_start {o : Obj} {c : Addr} (h : DS w o [("cells", .ref c), ("at", .int 0), ("rest", .int 0)]) : SA w o c 0 0 :=
  ⟨_, h, by rfl, by rfl, by rfl, Nat.le_of_ble_eq_true rfl⟩
theorem cells_eq (xs : List Int) : ((xs.map AV.int) ++ [AV.int 0]).take 40 = ((xs ++ [0]).take 40).map AV.int := by simp [List.map_take]
theorem cells_ne (xs : List Int) : (xs ++ [0]).take 40 ≠ [] := by cases xs <;> simp
theorem cells_len (xs : List Int) : ((xs ++ [(0 : Int)]).take 40).length ≤ 40 := by rw [List.length_take]; omega
end
end Mine
namespace Mine
set_option maxRecDepth 100000
set_option maxHeartbeats 8000000
theorem ite_n {c : Prop} [Decidable c] {P R : Prop} (h : ¬ c) (q : R) : if c then P else R := by rw [if_neg h]; exact q
theorem not_nt : ¬ ((!true) = true) := by decide
theorem not_ft : ¬ (false = true) := by decide
/-- a mark: the walk stops at an if -/
def StopIf : Prop := True
theorem stopIf : StopIf := trivial
theorem joined {w : World} {A : Around} {α : Type} {t : Sem α} {Q : α → Shared → Prop} {s : Shared} (P : α → Shared → Prop) (h1 : WP w A t P s) (h2 : ∀ a s', P a s' → Q a s') : WP w A t Q s := wpAny_mono h1 h2 fun _ _ e => e
def AtNext (R : Shared → Prop) (f : Flow) (s : Shared) : Prop := f = .next ∧ R s
theorem AtNext.mk {R : Shared → Prop} {s : Shared} (h : R s) : AtNext R .next s := ⟨rfl, h⟩
theorem joinedN {w : World} {A : Around} {t : Sem Flow} {Q : Flow → Shared → Prop} {s : Shared} (R : Shared → Prop) (h1 : WP w A t (AtNext R) s) (h2 : ∀ s', R s' → Q .next s') : WP w A t Q s := joined (AtNext R) h1 fun _ s' ⟨e, h⟩ => e ▸ h2 s' h
theorem law_raises (l : OpenLaw) (args : List WData) (cls : ExcName) : l.row.claim.raises args cls = false := rfl
theorem law_post (l : OpenLaw) (args : List WData) : l.row.claim.post args (ofPy (.bool true)) args = true := by with_unfolding_all rfl
theorem top_good (l : OpenLaw) {cl : Str → Option Addr} {mean : ExcName → Option Value} {args : List WData} {s₁ s' : Shared} {v : Value}
    (hg : s₁.gens = #[]) (h : TopK s₁ s₁.heap v s') : GoodW l.row.claim cl mean args s₁ (.ok (.ret v)) s' := by
  obtain ⟨rfl, h1, h2, h3⟩ := h
  exact ⟨.inl ⟨_, _, [], rfl, law_raises l args, readsW_of_reads (.bool true), law_post l args, fun _ => ⟨List.nodup_nil, fun a ha => (by cases ha)⟩⟩, h1, h2, h3.trans hg⟩
theorem top_wp (l : OpenLaw) {w : World} {A : Around} {t : Sem Flow} {s : Shared} {cl : Str → Option Addr} {mean : ExcName → Option Value} {args : List WData} {s₁ : Shared} {E : Value → Shared → Prop} {k : Flow → Value}
    (hg : s₁.gens = #[]) (h : wpAny (model l.row.prog w) A t (fun f s' => TopK s₁ s₁.heap (k f) s') (fun _ _ => False) s) :
    wpAny (model l.row.prog w) A t (fun f s' => GoodW l.row.claim cl mean args s₁ (.ok (.ret (k f))) s') E s :=
  wpAny_mono h (fun _ _ h => top_good l hg h) (fun _ _ h => h.elim)
theorem r_start2 {w : World} {z s : Shared} {h₀ : Heap} {L : Addr} {base : Heap} {m : Str → Option Value} {p : Program} {loose : List Str} {mg mb : Str → Option Value} {name : Str} {scope : Scope} {f a : Addr} {cd : Value} {body : List Stmt} {Q : Flow → Shared → Prop}
    (KX : (hd.heap_1 w.params).In h₀) (T : TopRead p loose mg mb h₀) (K0 : Below callerA base [] h₀) (F : Fr h₀ L s.heap m) (hm : m "script" = some (.ref a)) (hk : scope.kind = .function) (e1 : s.gens = z.gens) (e2 : s.os = z.os)
    (h : ∀ A' s, Cx w A' h₀ L 60 → St z h₀ L [("script", .ref a)] [] s → WP w A' (execs body (envX name scope L f cd [])) Q s) :
    wpAny (model PySem.Challenge.rw_on0210_01.row.prog w) (callerA.deeper (envOf name scope L f cd)) (execs body (envOf name scope L f cd)) Q (fun _ _ => False) s :=
  r_start KX T K0 F hm hk e1 e2 fun A' => h A' s
end Mine
namespace Mine
set_option linter.unusedSectionVars false
set_option linter.unusedVariables false
set_option maxRecDepth 100000
set_option maxHeartbeats 1000000
/-- p is taken out -/
inductive Pk {α : Type} (p : α) : List α → List α → Prop
  | head {r} : Pk p (p :: r) r
  | tail {q r r'} : Pk p r r' → Pk p (q :: r) (q :: r')
  | left {t t' r} : Pk p t t' → Pk p (t ++ r) (t' ++ r)
  | right {t r r'} : Pk p r r' → Pk p (t ++ r) (t ++ r')
/-- a whole run is taken out -/
inductive Pl {α : Type} (t : List α) : List α → List α → Prop
  | head {r} : Pl t (t ++ r) r
  | tail {q r r'} : Pl t r r' → Pl t (q :: r) (q :: r')
  | right {u r r'} : Pl t r r' → Pl t (u ++ r) (u ++ r')
  | whole : Pl t t []
  | left {u u' r} : Pl t u u' → Pl t (u ++ r) (u' ++ r)
inductive SubL {α : Type} : List α → List α → Prop
  | refl {c} : SubL c c
  | nil {c} : SubL [] c
  | cons {p a c r} : Pk p c r → SubL a r → SubL (p :: a) c
  | app {t a c r} : Pl t c r → SubL a r → SubL (t ++ a) c
  | skip {a q c} : SubL a c → SubL a (q :: c)
  | skipL {a t c} : SubL a c → SubL a (t ++ c)
theorem Pk.perm {α : Type} {p : α} {c r : List α} (h : Pk p c r) : c.Perm (p :: r) := by
  induction h with
  | head => exact .refl _
  | tail _ ih => exact (ih.cons _).trans (.swap _ _ _)
  | left _ ih => exact ih.append_right _
  | right _ ih => exact (ih.append_left _).trans List.perm_middle
theorem Pl.perm {α : Type} {t c r : List α} (h : Pl t c r) : c.Perm (t ++ r) := by
  induction h with
  | head => exact .refl _
  | tail _ ih => exact (ih.cons _).trans List.perm_middle.symm
  | @right u r r' _ ih => exact (ih.append_left _).trans (by rw [← List.append_assoc, ← List.append_assoc]; exact (List.perm_append_comm (l₁ := u) (l₂ := t)).append_right _)
  | whole => rw [List.append_nil]
  | left _ ih => rw [← List.append_assoc]; exact ih.append_right _
theorem SubL.subperm {α : Type} {a c : List α} (h : SubL a c) : ∃ r, (a ++ r).Perm c := by
  induction h with
  | refl => exact ⟨[], by simp⟩
  | @nil c => exact ⟨c, .refl _⟩
  | cons hp _ ih => obtain ⟨r, hr⟩ := ih; exact ⟨r, (hr.cons _).trans hp.perm.symm⟩
  | @app t a c r hp _ ih => obtain ⟨r2, hr⟩ := ih; exact ⟨r2, by rw [List.append_assoc]; exact (hr.append_left t).trans hp.perm.symm⟩
  | @skip a q c _ ih => obtain ⟨r, hr⟩ := ih; exact ⟨q :: r, List.perm_middle.trans (hr.cons _)⟩
  | @skipL a t c _ ih => obtain ⟨r, hr⟩ := ih; exact ⟨t ++ r, ((List.perm_append_comm_assoc a t r).trans (hr.append_left t))⟩
theorem SubL.appc {α : Type} {p : α} {t a c : List α} (h : SubL (p :: (t ++ a)) c) : SubL ((p :: t) ++ a) c := h
theorem SubL.appn {α : Type} {a c : List α} (h : SubL a c) : SubL ([] ++ a) c := h
section
variable {z s : Shared} {h₀ : Heap} {L : Addr} {l : List (Str × AV)} {cs : List (Addr × Obj)}
theorem St.monoS {l' : List (Str × AV)} {cs' : List (Addr × Obj)} (S : St z h₀ L l cs s) (a : SubL l' l) (b : (l'.map (·.1)).Nodup) (d : SubL cs' cs) : St z h₀ L l' cs' s := by
  obtain ⟨r, hr⟩ := a.subperm
  obtain ⟨r2, hr2⟩ := d.subperm
  refine S.mono (fun p hp => hr.mem_iff.mp (List.mem_append_left _ hp)) b (fun p hp => hr2.mem_iff.mp (List.mem_append_left _ hp)) fun x => ?_
  rw [← (hr2.map (·.1)).count_eq, List.map_append, List.count_append]
  omega
end
end Mine
namespace Mine
set_option linter.unusedSectionVars false
set_option maxRecDepth 100000
set_option maxHeartbeats 1000000
set_option compiler.extract_closed false
local macro_rules | `(tactic| walk_at "suovn") => `(tactic| ((case S => with_reducible assumption); (case U => walk_at "my_at"); (case o => with_reducible assumption); (case v => walk_at "my_v"); (case n => walk_at "my_len"); intro o' s' hd' S'; (try dsimp only at S')))
set_option hygiene false in
local macro_rules | `(tactic| walk_at "csmo") => `(tactic| ((case C => with_reducible assumption); (case S => with_reducible assumption); (case m => walk_at "my_mem"); (case o => with_reducible assumption)))
set_option hygiene false in
local macro_rules | `(tactic| walk_at "smo") => `(tactic| ((case S => with_reducible assumption); (case m => walk_at "my_mem"); (case o => with_reducible assumption)))
set_option hygiene false in
local macro_rules | `(tactic| walk_at "csgdo") => `(tactic| ((case C => with_reducible assumption); (case S => with_reducible assumption); (case g => walk_at "my_mem"); (case d => walk_at "my_mem"); (case o => with_reducible assumption)))
set_option hygiene false in
local macro_rules | `(tactic| walk_at "cs") => `(tactic| ((case C => with_reducible assumption); (case S => with_reducible assumption)))
set_option hygiene false in
local macro_rules | `(tactic| walk_at "sm") => `(tactic| ((case S => with_reducible assumption); (case m => walk_at "my_mem")))
set_option hygiene false in
local macro_rules | `(tactic| walk_at "suo") => `(tactic| ((case S => with_reducible assumption); (case U => walk_at "my_at"); (case o => with_reducible assumption)))
set_option hygiene false in
local macro_rules | `(tactic| walk_at "s") => `(tactic| ((case S => with_reducible assumption)))
local macro_rules | `(tactic| walk_at "phan") => `(tactic| ((case p => k_is); (case hh => k_is); (case a => k_is); (case n => k_is); intro s' S'))
local macro_rules | `(tactic| walk_at "i4") => `(tactic| (intro o' s' hd' S'; (try dsimp only at S')))
local macro_rules | `(tactic| walk_at "i2") => `(tactic| (intro s' S'; (try dsimp only at S')))
set_option hygiene false in
local macro_rules | `(tactic| walk_at "xg") => `(tactic| ((case x => walk_at "my_hx"); walk_at "my_got2"))
set_option hygiene false in
local macro_rules | `(tactic| walk_at "vn") => `(tactic| ((case v => walk_at "my_avs"); (case n => ((simp only [List.length_cons, List.length_nil]); decide)); intro _ _ _ _ _))
set_option hygiene false in
local macro_rules | `(tactic| walk_at "n") => `(tactic| ((case n => walk_at "my_len")))
set_option hygiene false in
local macro_rules | `(tactic| walk_at "hb") => `(tactic| ((case hb => walk_at "my_ar")))
set_option hygiene false in
local macro_rules | `(tactic| walk_at "hc") => `(tactic| ((case hc => walk_at "my_ar")))
set_option hygiene false in
local macro_rules | `(tactic| walk_at "s3") => `(tactic| ((case S => with_reducible assumption); intro _ _ _))
set_option hygiene false in
local macro_rules | `(tactic| walk_at "my_mem") => `(tactic| first
  | with_reducible assumption
  | with_reducible exact List.mem_cons_self
  | (with_reducible refine List.mem_cons_of_mem _ ?_; walk_at "my_mem")
  | (with_reducible refine List.mem_append_left _ ?_; walk_at "my_mem")
  | (with_reducible refine List.mem_append_right _ ?_; walk_at "my_mem"))
local macro_rules | `(tactic| walk_at "my_put") => `(tactic| first
  | with_reducible exact Put.here
  | with_reducible exact Put.nil
  | (with_reducible refine' Put.skip ?pne ?pk; (case pne => decide); (case pk => walk_at "my_put")))
local macro_rules | `(tactic| walk_at "my_at") => `(tactic| first
  | (with_reducible refine' At.upd ?m1 ?m2; (case m1 => with_reducible assumption); (case m2 => with_reducible assumption))
  | with_reducible exact At.head
  | (with_reducible refine' At.tail ?atk; (case atk => walk_at "my_at"))
  | (with_reducible refine' At.left ?atk; (case atk => walk_at "my_at"))
  | (with_reducible refine' At.right ?atk; (case atk => walk_at "my_at")))
set_option hygiene false in
local macro_rules | `(tactic| walk_at "my_S") => `(tactic| with_reducible assumption)
set_option hygiene false in
local macro_rules | `(tactic| walk_at "my_v") => `(tactic| first | exact is_int | exact is_ref | exact is_str | exact is_bool | exact is_none | with_reducible assumption)
local macro_rules | `(tactic| walk_at "my_avs") => `(tactic| first | exact AVs.nil | (refine' AVs.cons ?avh ?avk; (case avh => walk_at "my_v"); (case avk => walk_at "my_avs")))
local macro_rules | `(tactic| walk_at "my_got") => `(tactic| first | (with_reducible refine got_int ?_; intro t') | with_reducible refine got_ref ?_ | (with_reducible refine got_str ?_; intro t') | with_reducible refine got_bool ?_ | (intro v' hv; obtain ⟨t', e'⟩ := hv; subst e') | (intro v' hv; cases hv) | intro _ _)
local macro_rules | `(tactic| walk_at "my_got2") => `(tactic| first | (with_reducible refine got2_int ?_; intro s' S' t') | (with_reducible refine got2_ref ?_; intro s' S') | (with_reducible refine got2_str ?_; intro s' S' t') | (with_reducible refine got2_bool ?_; intro s' S') | (intro v' s' hv S'; obtain ⟨t', e'⟩ := hv; subst e') | (intro v' s' hv S'; cases hv) | intro _ _ _ _)
local macro_rules | `(tactic| walk_at "my_glob") => `(tactic| first
  | (refine' r_glob ?C ?S ?e ?_; walk_at "cs"; (case e => k_is))
  | (refine' r_builtin ?C ?S ?e ?v ?n ?_; walk_at "cs"; (case e => k_is); (case v => boot_fast); (case n => decide)))
local macro_rules | `(tactic| walk_at "eval Name") => `(tactic| k_dflt (first
  | (refine' r_loc_int ?S ?m ?_; walk_at "sm"; intro _)
  | (refine' r_loc_ref ?S ?m ?_; walk_at "sm")
  | (refine' r_loc ?S ?m ?_; walk_at "sm"; intro _ _)
  | walk_at "my_glob"))
local macro_rules | `(tactic| walk_at "storeName") => `(tactic| k_dflt (refine' r_store ?S ?v ?p ?_; walk_at "s"; (case v => walk_at "my_v"); (case p => walk_at "my_put"); intro _ _))
set_option hygiene false in
local macro_rules | `(tactic| walk_at "my_ar") => `(tactic| first | with_reducible assumption | decide | omega)
local macro_rules | `(tactic| walk_at "subscriptTail") => `(tactic| k_dflt (first
  | (refine' r_tup_item ?S ?m ?o ?a ?b ?x ?_; walk_at "smo"; (case a => decide); (case b => decide); (case x => exact rfl); walk_at "my_got")
  | (refine' r_list_item ?S ?m ?o ?a ?b ?x ?_; walk_at "smo"; (case a => walk_at "my_ar"); (case b => walk_at "my_ar"); (case x => with_reducible assumption); walk_at "my_got")
  | (refine' r_dict_item ?S ?m ?o ?x ?_; walk_at "smo"; walk_at "xg")
  | (refine' r_sdict_item ?S ?m ?o ?x ?_; walk_at "smo"; walk_at "xg")))
local macro_rules | `(tactic| walk_at "eval Constant int") => `(tactic| (refine' r_const_int ?S ?_; walk_at "s3"))
local macro_rules | `(tactic| walk_at "eval Constant str") => `(tactic| (refine' r_const_str ?S ?_; walk_at "s3"))
set_option hygiene false in
local macro_rules | `(tactic| walk_at "eval Constant bool") => `(tactic| refine r_const_bool ?_)
local macro_rules | `(tactic| walk_at "binaryOp Add int int") => `(tactic| (refine' r_add ?S ?_; walk_at "s3"))
local macro_rules | `(tactic| walk_at "binaryOp Sub int int") => `(tactic| (refine' r_sub ?S ?_; walk_at "s3"))
local macro_rules | `(tactic| walk_at "inplaceOp Add int int") => `(tactic| (refine' r_iadd ?S ?_; walk_at "s3"))
local macro_rules | `(tactic| walk_at "inplaceOp Sub int int") => `(tactic| (refine' r_isub ?S ?_; walk_at "s3"))
local macro_rules | `(tactic| walk_at "binaryOp BitAnd int int") => `(tactic| (refine' r_and ?S ?_; walk_at "s3"))
local macro_rules | `(tactic| walk_at "binaryOp BitOr int int") => `(tactic| (refine' r_or ?S ?_; walk_at "s3"))
local macro_rules | `(tactic| walk_at "unaryOp USub int") => `(tactic| (refine' r_neg ?S ?_; walk_at "s3"))
set_option hygiene false in
local macro_rules | `(tactic| walk_at "compareOp Lt int int") => `(tactic| refine r_lt ?_)
set_option hygiene false in
local macro_rules | `(tactic| walk_at "compareOp LtE int int") => `(tactic| refine r_le ?_)
set_option hygiene false in
local macro_rules | `(tactic| walk_at "compareOp Gt int int") => `(tactic| refine r_gt ?_)
set_option hygiene false in
local macro_rules | `(tactic| walk_at "compareOp GtE int int") => `(tactic| refine r_ge ?_)
set_option hygiene false in
local macro_rules | `(tactic| walk_at "compareOp Eq int int") => `(tactic| refine r_eq ?_)
set_option hygiene false in
local macro_rules | `(tactic| walk_at "compareOp NotEq int int") => `(tactic| refine r_ne ?_)
local macro_rules | `(tactic| walk_at "callWith ref") => `(tactic| k_dflt (first
  | (refine' r_callWith ?C ?S ?k ?_ ?e ?p; walk_at "cs"; (case k => k_is); (case e => rfl); (case p => rfl))
  | (refine' r_callWith0 ?C ?S ?k ?_; walk_at "cs"; (case k => k_is))))
local macro_rules | `(tactic| walk_at "my_enter") => `(tactic| (
  (case ho => k_is); (case hcd => k_is); (case hbi => with_unfolding_all rfl); (case hl => exact locs rfl); (case hbs => walk_at "my_avs"); (case hnd => ((simp only [List.map_cons, List.map_nil]); decide)); (case hc => decide); (case h1 => rfl); (case h2 => rfl); (case h3 => rfl);
  intro g' L' A' s' C' S'; try dsimp only))
local macro_rules | `(tactic| walk_at "my_sub") => `(tactic| first
  | with_reducible exact List.forall_mem_nil _
  | (refine List.forall_mem_cons.mpr ⟨?_, ?_⟩; walk_at "my_mem"; walk_at "my_sub")
  | (refine List.forall_mem_append.mpr ⟨?_, ?_⟩; walk_at "my_sub"; walk_at "my_sub")
  | (intro p hp; walk_at "my_mem"))
local macro_rules | `(tactic| walk_at "my_cnt") => `(tactic| (intro x; simp only [List.map_cons, List.map_append, List.map_nil, List.count_cons, List.count_append, List.count_nil]; omega))
set_option hygiene false in
local macro_rules | `(tactic| walk_at "my_nd") => `(tactic| ((try simp only [List.map_cons, List.map_nil]); decide))
set_option hygiene false in
local macro_rules | `(tactic| walk_at "exec For") => `(tactic| refine r_For ?_)
set_option hygiene false in
local macro_rules | `(tactic| walk_at "exec While") => `(tactic| refine r_While ?_)
local macro_rules | `(tactic| walk_at "compareOp In int ref") => `(tactic| first
  | (refine' r_list_in ?S ?m ?o ?_; walk_at "smo")
  | (refine' r_dict_in ?S ?m ?o ?_; walk_at "smo"; intro _ _))
local macro_rules | `(tactic| walk_at "compareOp In str ref") => `(tactic| (refine' r_tup_in ?S ?m ?o ?_; walk_at "smo"))
local macro_rules | `(tactic| walk_at "newTuple") => `(tactic| (refine' r_newtup ?C ?S ?v ?n ?_; walk_at "cs"; walk_at "vn"))
local macro_rules | `(tactic| walk_at "newList") => `(tactic| (refine' r_newlist ?C ?S ?v ?n ?_; walk_at "cs"; walk_at "vn"))
set_option hygiene false in
local macro_rules | `(tactic| walk_at "And") => `(tactic| (refine ⟨⟨_, _, by with_reducible assumption⟩, ?_⟩; (try dsimp only [List.nil_append, List.cons_append])))
local macro_rules | `(tactic| walk_at "loadName") => `(tactic| k_dflt (refine' r_load ?S ?m ?_; walk_at "sm"; walk_at "my_got"))
set_option hygiene false in
local macro_rules | `(tactic| walk_at "my_out") => `(tactic| first | ((with_reducible refine Hid.out hKq1 ?_); (try clear hKq1 Kq1)) | ((with_reducible refine Hid.out hKq2 ?_); (try clear hKq2 Kq2)) | ((with_reducible refine Hid.out hKq3 ?_); (try clear hKq3 Kq3)) | ((with_reducible refine Hid.out hKq4 ?_); (try clear hKq4 Kq4)) | ((with_reducible refine Hid.out hKq5 ?_); (try clear hKq5 Kq5)) | ((with_reducible refine Hid.out hKq6 ?_); (try clear hKq6 Kq6)))
set_option hygiene false in
local macro_rules | `(tactic| walk_at "my_step") => `(tactic| ((fail_if_success walk_at "my_stop"); first | walk1 | walk_at "my_out" | (dsimp only; walk1)))
set_option hygiene false in
local macro_rules | `(tactic| walk_at "my_go") => `(tactic| ((repeat' (walk_at "my_step")); (all_goals (try dsimp only))))
set_option hygiene false in
local macro_rules | `(tactic| walk_at "my_in") => `(tactic| first | ((fail_if_success (have := Kq1)); intro Kq1 hKq1) | ((fail_if_success (have := Kq2)); intro Kq2 hKq2) | ((fail_if_success (have := Kq3)); intro Kq3 hKq3) | ((fail_if_success (have := Kq4)); intro Kq4 hKq4) | ((fail_if_success (have := Kq5)); intro Kq5 hKq5) | ((fail_if_success (have := Kq6)); intro Kq6 hKq6))
set_option hygiene false in
local macro_rules | `(tactic| walk_at "execs cons") => `(tactic| ((with_reducible refine wpAny_execs_cons ?_); (try dsimp only); (with_reducible refine hid ?_); walk_at "my_in"))
local macro_rules | `(tactic| walk_at "binaryOp Mult int int") => `(tactic| k_dflt (refine' r_mul ?S ?m ?_; walk_at "s"; (case m => mul_fits); intro _ _ _))
local macro_rules | `(tactic| walk_at "eval Dict nil nil") => `(tactic| (refine' r_newdict ?C ?S ?_; walk_at "cs"; intro _ _ _ _ _))
local macro_rules | `(tactic| walk_at "call builtin:len") => `(tactic| k_dflt (first
  | (refine' r_len_list ?S ?m ?o ?n ?_; walk_at "smo"; walk_at "n"; intro _ _ _)
  | (refine' r_len_dict ?S ?m ?o ?n ?_; walk_at "smo"; walk_at "n"; intro _ _ _)))
set_option hygiene false in
local macro_rules | `(tactic| walk_at "my_len") => `(tactic| first | with_reducible assumption | ((try simp only [List.length_map, List.length_cons, List.length_nil, List.length_append]); omega) | (simp only [length_setK]; (repeat' split) <;> omega))
local macro_rules | `(tactic| walk_at "call type:range") => `(tactic| (refine' r_range ?C ?S ?_; walk_at "cs"; intro _ _ _ _ _))
local macro_rules | `(tactic| walk_at "setItem ref int") => `(tactic| k_dflt (refine' r_dict_set ?S ?U ?o ?v ?n ?_; walk_at "suovn"))
local macro_rules | `(tactic| walk_at "setItem ref str") => `(tactic| k_dflt (refine' r_sdict_set ?S ?U ?o ?v ?n ?_; walk_at "suovn"))
local macro_rules | `(tactic| walk_at "exec Assign") => `(tactic| ((with_reducible show wpAny _ _ (exec (Stmt.Assign [Expr.Attribute _ _ _] _ _) _) _ _ _); k_dflt (refine' plainObj_wpAny_Assign_Attribute ?_ ?hs; (case hs => with_unfolding_all rfl))))
local macro_rules | `(tactic| walk_at "exec Assign") => `(tactic| ((with_reducible show wpAny _ _ (exec (Stmt.Assign [Expr.Subscript _ _ _] _ _) _) _ _ _); k_dflt (refine' wpAny_Assign_Subscript ?_ ?hs; (case hs => with_unfolding_all rfl))))
local macro_rules | `(tactic| walk_at "setAttr ref") => `(tactic| k_dflt (refine' r_setattr ?C ?S ?g ?U ?hs ?p ?t ?hh ?l ?e ?z ?_; walk_at "cs"; (case g => walk_at "my_mem"); (case U => walk_at "my_at"); (case hs => k_is); (case p => k_is); (case t => k_is); (case hh => k_is); (case l => k_get); (case e => k_put); (case z => ((simp only [List.length_cons, List.length_nil]); decide)); walk_at "i2"))
local macro_rules | `(tactic| walk_at "getAttr ref") => `(tactic| k_dflt (first
  | (refine' r_attr1 ?C ?S ?g ?d ?o ?p ?hh ?a ?n ?_; walk_at "csgdo"; walk_at "phan")
  | (refine' r_attr2 ?C ?S ?g ?d ?o ?ne ?p ?hh ?a ?n ?_; walk_at "csgdo"; (case ne => decide); walk_at "phan")))
local macro_rules | `(tactic| walk_at "getMethod ref") => `(tactic| k_dflt (first
  | (refine' r_listmeth ?S ?m ?o ?sl ?ty ?_; walk_at "smo"; (case sl => first | with_reducible exact PySem.F.slot_list_append | with_reducible exact PySem.F.slot_list_extend | with_reducible exact PySem.F.slot_list_count); (case ty => first | with_reducible exact PySem.F.type_list_append | with_reducible exact PySem.F.type_list_extend | with_reducible exact PySem.F.type_list_count))
  | (refine' r_meth ?C ?S ?g ?d ?o ?n1 ?n2 ?p ?f ?t ?_; walk_at "csgdo"; (case n1 => decide); (case n2 => decide); (case p => k_is); (case f => k_is); (case t => k_is))))
local macro_rules | `(tactic| walk_at "call builtin:list.append") => `(tactic| (refine' r_append ?S ?U ?o ?v ?n ?_; walk_at "suovn"))
local macro_rules | `(tactic| walk_at "delItem ref int") => `(tactic| k_dflt (refine' r_dict_del ?S ?U ?o ?x ?n ?_; walk_at "suo"; (case x => with_reducible assumption); walk_at "n"; walk_at "i4"))
local macro_rules | `(tactic| walk_at "call builtin:list.extend") => `(tactic| k_dflt (refine' r_extend ?S ?U ?o ?b ?ob ?n ?n2 ?_; walk_at "suo"; (case b => walk_at "my_mem"); (case ob => with_reducible assumption); walk_at "n"; (case n2 => walk_at "my_len"); walk_at "i4"))
local macro_rules | `(tactic| walk_at "call builtin:sorted") => `(tactic| k_dflt (refine' r_sorted_dict ?C ?S ?m ?o ?n ?_; walk_at "csmo"; walk_at "n"; intro _ _ _ _ _ _ _ _))
local macro_rules | `(tactic| walk_at "my_hx") => `(tactic| first | with_reducible assumption | (with_reducible exact (getK_setK _ _ _ _).trans (if_pos rfl)) | (with_reducible refine' (getK_setK _ _ _ _).trans ((if_neg ?ne).trans ?rest); (case ne => decide); (case rest => walk_at "my_hx")) | ((with_reducible rename (_ → getK _ _ = some _) => hI'); exact hI' (by first | with_reducible assumption | omega)))
local macro_rules | `(tactic| walk_at "my_pk") => `(tactic| first | with_reducible exact Pk.head | (with_reducible refine' Pk.tail ?pkt; (case pkt => walk_at "my_pk")) | (with_reducible refine' Pk.left ?pkt; (case pkt => walk_at "my_pk")) | (with_reducible refine' Pk.right ?pkt; (case pkt => walk_at "my_pk")))
local macro_rules | `(tactic| walk_at "my_pl") => `(tactic| first | with_reducible exact Pl.head | with_reducible exact Pl.whole | (with_reducible refine' Pl.tail ?plt; (case plt => walk_at "my_pl")) | (with_reducible refine' Pl.left ?plt; (case plt => walk_at "my_pl")) | (with_reducible refine' Pl.right ?plt; (case plt => walk_at "my_pl")))
set_option hygiene false in
local macro_rules | `(tactic| walk_at "my_ss") => `(tactic| first | with_reducible exact SubL.refl | with_reducible exact SubL.nil | ((with_reducible show SubL (List.cons _ _) _); (with_reducible refine SubL.cons (by walk_at "my_pk") ?_); walk_at "my_ss") | ((with_reducible show SubL (_ ++ _) _); (with_reducible refine SubL.app (by walk_at "my_pl") ?_); walk_at "my_ss") | (with_reducible refine SubL.appc ?_; walk_at "my_ss") | (with_reducible refine SubL.appn ?_; walk_at "my_ss") | (with_reducible refine SubL.skip ?_; walk_at "my_ss") | (with_reducible refine SubL.skipL ?_; walk_at "my_ss"))
local macro_rules | `(tactic| walk_at "my_mono") => `(tactic| (refine' St.monoS ?S ?a ?b ?d; walk_at "s"; (case a => walk_at "my_ss"); (case b => (refine of_decide_eq_true ?_; kernel_rfl)); (case d => walk_at "my_ss")))
local macro_rules | `(tactic| walk_at "getItem ref int") => `(tactic| k_dflt (refine' r_dict_getitem ?S ?m ?o ?x ?_; walk_at "smo"; walk_at "xg"))
local macro_rules | `(tactic| walk_at "getMethod ref") => `(tactic| k_dflt (refine' r_dget_meth ?S ?m ?o ?_; walk_at "smo"))
local macro_rules | `(tactic| walk_at "call builtin:dict.get") => `(tactic| k_dflt (refine' r_dget ?S ?m ?o ?x ?_; walk_at "smo"; (case x => with_reducible assumption); intro _ _ _))
local macro_rules | `(tactic| walk_at "call type:reversed") => `(tactic| k_dflt (refine' r_reversed ?C ?S ?m ?o ?_; walk_at "csmo"; intro _ _ _ _ _))
local macro_rules | `(tactic| walk_at "compareOp NotIn int ref") => `(tactic| (refine' r_dict_notin ?S ?m ?o ?_; walk_at "smo"; intro _ _))
local macro_rules | `(tactic| walk_at "call builtin:min") => `(tactic| k_dflt (refine' r_min ?C ?S ?_; walk_at "cs"; intro _ _ _))
local macro_rules | `(tactic| walk_at "call builtin:max") => `(tactic| k_dflt (refine' r_max ?C ?S ?_; walk_at "cs"; intro _ _ _))
local macro_rules | `(tactic| walk_at "eval Name") => `(tactic| k_dflt (first
  | (refine' r_locI ?S ?m ?_; walk_at "sm"; intro _)
  | (refine' r_locR ?S ?m ?_; walk_at "sm")
  | (refine' r_locS ?S ?m ?_; walk_at "sm"; intro _)
  | (refine' r_locC ?S ?m ?_; walk_at "sm"; walk_at "my_got")
  | (refine' r_builtinC ?C ?S ?e ?v ?n ?_; walk_at "cs"; (case e => k_is); (case v => boot_fast); (case n => decide))))
local macro_rules | `(tactic| walk_at "binaryOp Mod int int") => `(tactic| k_dflt (refine' r_mod ?S ?hb ?_; walk_at "s"; walk_at "hb"; intro _ _ _))
local macro_rules | `(tactic| walk_at "binaryOp FloorDiv int int") => `(tactic| k_dflt (refine' r_fdiv ?S ?hb ?hc ?_; walk_at "s"; walk_at "hb"; walk_at "hc"; intro _ _ _))
local macro_rules | `(tactic| walk_at "binaryOp Pow int int") => `(tactic| k_dflt (refine' r_pow ?S ?hb ?hc ?_; walk_at "s"; (case hb => decide); (case hc => decide); intro _ _ _; (try simp only [pow18, pow64])))
local macro_rules | `(tactic| walk_at "binaryOp LShift int int") => `(tactic| k_dflt (refine' r_shl ?S ?hb ?hc ?hd ?_; walk_at "s"; walk_at "hb"; walk_at "hc"; (case hd => decide); intro _ _ _))
local macro_rules | `(tactic| walk_at "binaryOp RShift int int") => `(tactic| k_dflt (refine' r_shr ?S ?hb ?_; walk_at "s"; walk_at "hb"; intro _ _ _))
local macro_rules | `(tactic| walk_at "subscriptTail") => `(tactic| ((with_reducible show wpAny _ _ (subscriptTail _ _ _ (Value.str _ _)) _ _ _); k_dflt (refine' r_sdict_item ?S ?m ?o ?x ?_; walk_at "smo"; walk_at "xg")))
local macro_rules | `(tactic| walk_at "call type:list") => `(tactic| k_dflt (refine' r_list_copy ?C ?S ?m ?o ?n ?_; walk_at "csmo"; walk_at "n"; intro _ _ _ _ _ _))
local macro_rules | `(tactic| walk_at "call builtin:list.count") => `(tactic| k_dflt (refine' r_count ?S ?m ?o ?_; walk_at "smo"; intro _ _ _))
local macro_rules | `(tactic| walk_at "assign Tuple") => `(tactic| k_dflt (refine' r_unpack_row ?C ?S ?m ?o ?_; walk_at "csmo"; intro _ _ _ _ _ _))
local macro_rules | `(tactic| walk_at "binaryOp Add ref ref") => `(tactic| k_dflt (refine' r_addlist ?C ?S ?ha ?hb ?hoa ?hob ?n ?m ?_; walk_at "cs"; (case ha => walk_at "my_mem"); (case hb => walk_at "my_mem"); (case hoa => with_reducible assumption); (case hob => with_reducible assumption); walk_at "n"; (case m => walk_at "my_len"); intro _ _ _ _ _))
set_option hygiene false in
local macro_rules | `(tactic| walk_at "compareOp Eq bool bool") => `(tactic| refine r_eqbool ?_)
local macro_rules | `(tactic| walk_at "my_hx") => `(tactic| ((with_reducible rename (_ → getK _ _ = some _ ∧ getK _ _ = some _) => hI'); first | with_reducible exact (hI' (by with_reducible assumption)).1 | with_reducible exact (hI' (by with_reducible assumption)).2))
local macro_rules | `(tactic| walk_at "my_hx") => `(tactic| ((with_reducible rename (_ → _ → _ → _ → getK _ _ = some _ ∧ getK _ _ = some _) => hI'); first | with_reducible exact (hI' (by with_reducible assumption) (by with_reducible assumption) (by with_reducible assumption) (by with_reducible assumption)).1 | with_reducible exact (hI' (by with_reducible assumption) (by with_reducible assumption) (by with_reducible assumption) (by with_reducible assumption)).2))
local macro_rules | `(tactic| walk_at "my_stop") => `(tactic| ((with_reducible rename StopIf => stp'); (with_reducible show wpAny _ _ (exec (Stmt.If _ _ _ _) _) _ _ _)))
theorem fill_all : PySem.Challenge.rw_on0210_01.Holds → hd.heap_1 = hd.heap_1 := by k_fill; intro _; rfl
section
variable {w : World} {A : Around} {z s : Shared} {h₀ : Heap} {L : Addr} {l : List (Str × AV)} {cs : List (Addr × Obj)} {n : Nat}
theorem s_overlap {a b : Addr} {oa ob : Obj} {a0 a1 b0 b1 : Int} {Q : Value → Shared → Prop} (C : Cx w A h₀ L (n + 1)) (S : St z h₀ L l cs s)
    (ma : (a, oa) ∈ cs) (mb : (b, ob) ∈ cs) (ha : TI oa [.int a0, .int a1]) (hb : TI ob [.int b0, .int b1])
    (h : ∀ s', St z h₀ L l cs s' → Q (.bool (decide (a0 ≤ b1) && decide (b0 ≤ a1))) s') : WP w A (call (.ref 56) [.ref a, .ref b] []) Q s := by
  refine' r_call [("one", .ref a), ("other", .ref b)] C S ?ho ?hcd ?hbi ?hl ?hbs ?hnd ?_ ?hc ?h1 ?h2 ?h3
  walk_at "my_enter"
  clear C S
  walk_at "my_go"
  · rename_i h1 _ _ _ _ _ _ _ _
    refine RetK.intro (by assumption) fun s' S' => ?_
    simpa [h1] using h _ S'
  · rename_i h1
    refine RetK.intro (by assumption) fun s' S' => ?_
    simpa [h1] using h _ S'
theorem s_defined {a : Addr} {o : Obj} {r : Row} {Q : Value → Shared → Prop} (C : Cx w A h₀ L (n + 1)) (S : St z h₀ L l cs s)
    (ma : (a, o) ∈ cs) (ha : TI o r.avs) (h : ∀ s' t, St z h₀ L l cs s' → Q (.int (defOf r) t) s') : WP w A (call (.ref 35) [.ref a] []) Q s := by
  refine' r_call [("row", .ref a)] C S ?ho ?hcd ?hbi ?hl ?hbs ?hnd ?_ ?hc ?h1 ?h2 ?h3
  walk_at "my_enter"
  clear C S
  unfold Row.avs at ha
  walk_at "my_go"
  · refine RetK.intro (by assumption) fun s' S' => ?_
    have := h _ ‹_› S'
    simpa only [defOf, *, if_true, if_false, Bool.false_eq_true] using this
  · refine RetK.intro (by assumption) fun s' S' => ?_
    have := h _ ‹_› S'
    simpa only [defOf, *, if_true, if_false, Bool.false_eq_true] using this
theorem s_ops {Q : Value → Shared → Prop} (C : Cx w A h₀ L (n + 1)) (S : St z h₀ L l cs s)
    (h : ∀ a o s', TI o (twoOps.map .str) → St z h₀ L l ((a, o) :: cs) s' → Q (.ref a) s') : WP w A (call (.ref 28) [] []) Q s := by
  refine' r_call [] C S ?ho ?hcd ?hbi ?hl ?hbs ?hnd ?_ ?hc ?h1 ?h2 ?h3
  walk_at "my_enter"
  clear C S
  walk_at "my_go"
  refine RetK.intro (by assumption) fun s' S' => ?_
  exact h _ _ _ (by assumption) S'
theorem s_used {a : Addr} {o : Obj} {r : Row} {Q : Value → Shared → Prop} (C : Cx w A h₀ L (n + 2)) (S : St z h₀ L l cs s)
    (ma : (a, o) ∈ cs) (ha : TI o r.avs) (h : ∀ a o s', LI o ((uses r).map .int) → St z h₀ L l ((a, o) :: cs) s' → Q (.ref a) s') : WP w A (call (.ref 42) [.ref a] []) Q s := by
  refine' r_call [("row", .ref a)] C S ?ho ?hcd ?hbi ?hl ?hbs ?hnd ?_ ?hc ?h1 ?h2 ?h3
  walk_at "my_enter"
  clear C S
  unfold Row.avs at ha
  walk_at "my_go"
  dsimp only [List.nil_append]
  refine s_ops (by assumption) (by assumption) fun _ _ _ _ _ => ?_
  walk_at "my_go"
  all_goals
    refine RetK.intro (by assumption) fun s' S' => ?_
    refine h _ _ _ ?_ (S'.cells (cs' := (_, _) :: cs) (by walk_at "my_sub") (by walk_at "my_cnt"))
    unfold uses
    (repeat' split) <;> first | assumption | (exfalso; simp_all; done)
end
section
variable {w : World} {A : Around} {z s : Shared} {h₀ : Heap} {L : Addr} {l : List (Str × AV)} {cs : List (Addr × Obj)} {n : Nat}
theorem s_lowest {a : Addr} {o : Obj} {ns : List Int} {Q : Value → Shared → Prop} (C : Cx w A h₀ L (n + 1)) (S : St z h₀ L l cs s)
    (ma : (a, o) ∈ cs) (ha : LI o (ns.map .int)) (h : ∀ m t s', 0 ≤ m → m ∉ ns → (∀ j, 0 ≤ j → j < m → j ∈ ns) → St z h₀ L l cs s' → Q (.int m t) s') : WP w A (call (.ref 98) [.ref a] []) Q s := by
  refine' r_call [("numbers", .ref a)] C S ?ho ?hcd ?hbi ?hl ?hbs ?hnd ?_ ?hc ?h1 ?h2 ?h3
  walk_at "my_enter"
  clear C S
  walk_at "my_go"
  refine r_while (fun k l c => ∃ m : Nat, l = ([("numbers", .ref a), ("lowest", .int m)] : List (Str × AV)) ∧ c = cs ∧ (∀ j : Int, 0 ≤ j → j < m → j ∈ ns) ∧ k + m = ns.length) ns.length (by assumption) ⟨0, rfl, rfl, fun j h1 h2 => by omega, by omega⟩ ?_
  rintro k l c s' ⟨m, rfl, rfl, hj, hk⟩ S'
  walk_at "my_go"
  · have hin : (ns.any (· == (m : Int))) = true := by assumption
    have hm : (m : Int) ∈ ns := by simpa using hin
    have hlen : m + 1 ≤ ns.length := by
      have := length_le_of_subset (a := (List.range (m + 1)).map Int.ofNat) (b := ns) (by
        rw [List.nodup_iff_pairwise_ne, List.pairwise_map]
        exact (List.nodup_range (n := m + 1)).imp (fun h e => h (Int.ofNat.inj e))) (fun x hx => by
        obtain ⟨j, hj', rfl⟩ := List.mem_map.mp hx
        rw [List.mem_range] at hj'
        rcases Nat.lt_or_eq_of_le (Nat.le_of_lt_succ hj') with h | h
        · exact hj _ (Int.natCast_nonneg _) (by show (j : Int) < m; omega)
        · subst h; exact hm)
      simpa using this
    refine WEnd.next (by assumption) (m := k - 1) (by omega) ⟨m + 1, rfl, rfl, fun j h1 h2 => ?_, by omega⟩
    by_cases e : j = m
    · subst e; exact hm
    · exact hj j h1 (by omega)
  · have hin : (ns.any (· == (m : Int))) = false := by assumption
    refine RetK.intro (by assumption) fun s' S' => ?_
    refine h _ _ _ (Int.natCast_nonneg m) (fun hm => by rw [List.any_eq_false] at hin; exact absurd (beq_self_eq_true _) (hin _ hm)) hj S'
end
section
variable {w : World} {A : Around} {z s : Shared} {h₀ : Heap} {L : Addr} {l : List (Str × AV)} {cs : List (Addr × Obj)} {n : Nat}
theorem s_spans {ra : Addr} {ro : Obj} {rows : List Row} {Q : Value → Shared → Prop} (C : Cx w A h₀ L (n + 4)) (S : St z h₀ L l cs s)
    (hR : RowsAt cs ra ro rows) (hlen : rows.length < 1000) (hwf : ∀ (i : Nat) (r : Row), rows[i]? = some r → ∀ v ∈ uses r, (getK (spansN rows i) v).isSome = true)
    (h : ∀ f fo tc s', Lives w fo (spansP rows) tc → St z h₀ L l (tc ++ (f, fo) :: cs) s' → Q (.ref f) s') : WP w A (call (.ref 49) [.ref ra] []) Q s := by
  refine' r_call [("rows", .ref ra)] C S ?ho ?hcd ?hbi ?hl ?hbs ?hnd ?_ ?hc ?h1 ?h2 ?h3
  walk_at "my_enter"
  clear C S
  obtain ⟨mra, as, hLr, hal, hrow⟩ := hR
  walk_at "my_go"
  rename_i f fo s1 hf S1 s2 S2 t s3 S3 rg rgo s4 hrg S4
  rw [List.length_map, hal] at hrg
  refine r_iter_range (by assumption) S4 List.mem_cons_self hrg (by omega) (by omega) (S4.cells (cs' := (f, fo) :: cs) (by walk_at "my_sub") (by walk_at "my_cnt"))
    (fun i l c => ∃ fo tc, l = ([("rows", .ref ra), ("found", .ref f)] : List (Str × AV)) ∧ c = tc ++ (f, fo) :: cs ∧ Lives w fo (spansN rows i) tc) ⟨fo, [], rfl, rfl, .nil hf⟩ ?_ ?_
  · clear S1 S2 S3 S4 hf hrg
    rintro i t l c io I s' hi ⟨fo, tc, rfl, rfl, hL⟩ S'
    obtain ⟨r, hr⟩ : ∃ r, rows[i]? = some r := ⟨rows[i]'(by omega), List.getElem?_eq_getElem _⟩
    obtain ⟨a, o, ha, hmem, ho⟩ := hrow i r hr
    have hx : (as.map AV.ref)[((i : Nat) : Int).toNat]? = some (.ref a) := by simp [ha]
    walk_at "my_go"
    refine s_used (by assumption) (by assumption) (by walk_at "my_mem") ho ?_
    intro u uo s5 hu S5
    walk_at "my_go"
    refine r_iter_list (by assumption) S5 hu (fun j l c => ∃ fo tc, l = ([("rows", .ref ra), ("found", .ref f), ("index", .int i)] : List (Str × AV)) ∧ c = (u, uo) :: (I, io) :: (tc ++ (f, fo) :: cs) ∧ Lives w fo (((uses r).take j).foldl (useStep i) (spansN rows i)) tc) ⟨fo, tc, rfl, rfl, hL⟩ ?_ ?_ ?_
    · rintro j l c ⟨fo, tc, rfl, rfl, hL⟩; exact List.mem_cons_self
    · clear S5 hL
      rintro j v av l c io2 I2 s' hj hv ⟨fo, tc, rfl, rfl, des, hdes, hkeys, hget⟩ S'
      rw [List.getElem?_map, Option.map_eq_some_iff] at hj
      obtain ⟨x, hj, rfl⟩ := hj
      obtain ⟨t, rfl⟩ := hv
      have hs := useFold_isSome i ((uses r).take j) _ x (hwf i r hr x (List.mem_of_getElem? hj))
      obtain ⟨⟨s0, e0⟩, hse⟩ := Option.isSome_iff_exists.mp hs
      obtain ⟨ta, to, g1, g2, g3⟩ := hget x s0 e0 hse
      have hdl : des.length < 100000 := by
        have e1 := congrArg List.length hkeys
        simp only [List.length_map] at e1
        rw [e1, useFold_length i _ _ (fun v hv => hwf i r hr v (List.mem_of_mem_take hv))]
        have := spansN_length rows hwf i
        omega
      walk_at "my_go"
      rename_i nt nto s6 hnt S6 t2 o' s' hd' S'
      refine LoopEnd.next (c := (u, uo) :: (I, io) :: ((nt, nto) :: tc ++ (f, o') :: cs)) (l := [("rows", .ref ra), ("found", .ref f), ("index", .int i)]) (S'.mono (by walk_at "my_sub") (by walk_at "my_nd") (by walk_at "my_sub") (by walk_at "my_cnt")) ⟨o', _, rfl, rfl, ?_⟩
      rw [foldl_take_succ _ _ _ _ _ hj]
      have e1 := useStep_eq (i := i) hse
      rw [e1]
      exact Lives.set hkeys hget hd' hnt
    · clear S5 hL
      rintro l c s' ⟨fo, tc, rfl, rfl, hL⟩ S'
      rw [List.length_map, List.take_length] at hL
      walk_at "my_go"
      refine s_defined (by assumption) (by assumption) (by walk_at "my_mem") ho ?_
      intro s5 t5 S5
      walk_at "my_go"
      · -- a new name
        rename_i nt nto s6 hnt S6 t6
        have hpos : 0 ≤ defOf r := by assumption
        obtain ⟨des, hdes, hkeys, hget⟩ := hL
        have hdl : des.length < 100000 := by
          have e1 := congrArg List.length hkeys
          simp only [List.length_map] at e1
          rw [e1, useFold_length i _ _ (hwf i r hr)]
          have := spansN_length rows hwf i
          omega
        walk_at "my_go"
        rename_i o' s' hd' S'
        refine LoopEnd.next (c := (nt, nto) :: tc ++ (f, o') :: cs) (l := [("rows", .ref ra), ("found", .ref f)]) (S'.mono (by walk_at "my_sub") (by walk_at "my_nd") (by walk_at "my_sub") (by walk_at "my_cnt")) ⟨o', _, rfl, rfl, ?_⟩
        have e1 : spansN rows (i + 1) = setK ((uses r).foldl (useStep i) (spansN rows i)) (defOf r) (2 * i + 1, 2 * i + 1) := by
          rw [spansN, hr]; simp only [spStep]; rw [if_pos (by omega)]
        rw [e1]
        exact Lives.set hkeys hget hd' hnt
      · -- none
        rename_i s' S' hpos
        refine LoopEnd.next (c := tc ++ (f, fo) :: cs) (l := [("rows", .ref ra), ("found", .ref f)]) (S'.mono (by walk_at "my_sub") (by walk_at "my_nd") (by walk_at "my_sub") (by walk_at "my_cnt")) ⟨fo, _, rfl, rfl, ?_⟩
        have e1 : spansN rows (i + 1) = (uses r).foldl (useStep i) (spansN rows i) := by
          rw [spansN, hr]; simp only [spStep]; rw [if_neg (by omega)]
        rw [e1]; exact hL
  · rintro l c s' ⟨fo, tc, rfl, rfl, hL⟩ S'
    walk_at "my_go"
    refine RetK.intro (by assumption) fun s' S' => ?_
    refine h _ _ _ _ ?_ S'
    simpa [spansP] using hL
end
section
variable {w : World} {A : Around} {z s : Shared} {h₀ : Heap} {L : Addr} {l : List (Str × AV)} {cs : List (Addr × Obj)} {n : Nat}
theorem s_graph {Q : Value → Shared → Prop} (C : Cx w A h₀ L (n + 2)) (S : St z h₀ L l cs s)
    (h : ∀ x dx o a oa b ob s', G2 "near" "members" o a b → DI w oa [] → DI w ob [] → St z h₀ L l ((b, ob) :: (a, oa) :: (x, instObj 148 dx) :: (dx, o) :: cs) s' → Q (.ref x) s') : WP w A (call (.ref 148) [] []) Q s := by
  refine' r_new C S ?hm ?hi ?hf ?_
  case hm => k_is
  case hi => k_is
  case hf => k_is
  intro x dx s1 S1
  refine' r_init [("self", .ref x)] C S1 ?ho ?hcd ?hbi ?hl ?hbs ?hnd ?_ ?hc ?h1 ?h2 ?h3
  walk_at "my_enter"
  clear S1 S
  walk_at "my_go"
  refine RetK.intro (by assumption) fun s' S' => ⟨rfl, ?_⟩
  exact h _ _ _ _ _ _ _ _ ⟨_, _, _, _, _, rfl⟩ (by assumption) (by assumption) S'
theorem s_assignment {Q : Value → Shared → Prop} (C : Cx w A h₀ L (n + 2)) (S : St z h₀ L l cs s)
    (h : ∀ x dx o a oa b ob s', G2 "registers" "slots" o a b → DI w oa [] → DI w ob [] → St z h₀ L l ((b, ob) :: (a, oa) :: (x, instObj 87 dx) :: (dx, o) :: cs) s' → Q (.ref x) s') : WP w A (call (.ref 87) [] []) Q s := by
  refine' r_new C S ?hm ?hi ?hf ?_
  case hm => k_is
  case hi => k_is
  case hf => k_is
  intro x dx s1 S1
  refine' r_init [("self", .ref x)] C S1 ?ho ?hcd ?hbi ?hl ?hbs ?hnd ?_ ?hc ?h1 ?h2 ?h3
  walk_at "my_enter"
  clear S1 S
  walk_at "my_go"
  refine RetK.intro (by assumption) fun s' S' => ⟨rfl, ?_⟩
  exact h _ _ _ _ _ _ _ _ ⟨_, _, _, _, _, rfl⟩ (by assumption) (by assumption) S'
end
section
variable {w : World} {A : Around} {z s : Shared} {h₀ : Heap} {L : Addr} {l : List (Str × AV)} {cs : List (Addr × Obj)} {n : Nat}
variable {gc : List (Addr × Obj)} {g dx nr mr : Addr} {V W : List Int} {na ma : Int → Addr} {nk mk : Int → List Int}
theorem s_add {v : Int} {t : Tok} {Q : Value → Shared → Prop} (C : Cx w A h₀ L (n + 2)) (S : St z h₀ L l (gc ++ cs) s) (G : GA w gc g dx nr mr V na nk W ma mk) (hv : v ∉ V) (hw : v ∉ W) (hlV : V.length < 1000) (hlW : W.length < 1000)
    (h : ∀ gc' na' ma' s', GA w gc' g dx nr mr (V ++ [v]) na' (fun x => if x = v then [] else nk x) (W ++ [v]) ma' (fun x => if x = v then [v] else mk x) → St z h₀ L l (gc' ++ cs) s' → Q .none s') : WP w A (call (.ref 131) [.ref g, .int v t] []) Q s := by
  refine' r_call [("self", .ref g), ("node", .int v)] C S ?ho ?hcd ?hbi ?hl ?hbs ?hnd ?_ ?hc ?h1 ?h2 ?h3
  walk_at "my_enter"
  have gnd := S.nd_left
  clear C S
  obtain ⟨o, ho1, ho2⟩ := G.hdx
  obtain ⟨onr, hn1, hn2⟩ := G.hnr
  have hg := G.hg
  have hl1 : (kf V fun v => .ref (na v)).length < 100000 := by rw [length_kf]; omega
  walk_at "my_go"
  rename_i d1 od1 _ hd1 S1 _ _ _ o' _ hd' _ _ d2 od2 s2 hd2 S2
  have G1 := G.addN S1.fresh hv hd1 hd'
  rw [← List.cons_append] at S2
  generalize (d1, od1) :: upd gc nr o' = gc1 at S2 G1
  clear hg ho1 hn1 hn2 G gnd S1
  have gnd := (S2.cells (cs' := gc1 ++ cs) (by walk_at "my_sub") (by walk_at "my_cnt")).nd_left
  have hg := G1.hg
  obtain ⟨o, ho1, ho2⟩ := G1.hdx
  obtain ⟨onm, hn1, hn2⟩ := G1.hmr
  have hl2 : (kf W fun v => .ref (ma v)).length < 100000 := by rw [length_kf]; omega
  walk_at "my_go"
  rename_i o2 s3 hd3 S3
  have G2 := G1.addM (ks := [v]) S2.fresh hw hd2 hd3
  refine RetK.intro (l' := [("self", .ref g), ("node", .int v)]) (cs' := ((d2, od2) :: upd gc1 mr o2) ++ cs) S3 fun s' S' => ?_
  exact h _ _ _ _ G2 S'

theorem s_holder {v : Int} {t : Tok} {Q : Value → Shared → Prop} (C : Cx w A h₀ L (n + 2)) (S : St z h₀ L l cs s) (G : GA w cs g dx nr mr V na nk W ma mk)
    (h : ∀ s' t, St z h₀ L l cs s' → Q (.int (holderOf W mk v) t) s') : WP w A (call (.ref 145) [.ref g, .int v t] []) Q s := by
  refine' r_call [("self", .ref g), ("v", .int v)] C S ?ho ?hcd ?hbi ?hl ?hbs ?hnd ?_ ?hc ?h1 ?h2 ?h3
  walk_at "my_enter"
  clear C S
  obtain ⟨o, ho1, ho2⟩ := G.hdx
  obtain ⟨onm, hn1, hn2⟩ := G.hmr
  have hg := G.hg
  walk_at "my_go"
  rename_i S1
  refine r_iter_dict (by assumption) S1 hn2 (fun j l c => (∀ u ∈ W.take j, (mk u).any (· == v) = false) ∧ l = ([("self", .ref g), ("v", .int v)] : List (Str × AV)) ∧ cs = c) ⟨by simp, rfl, rfl⟩ ?_ ?_ ?_
  · rintro j l c ⟨_, rfl, rfl⟩; walk_at "my_mem"
  · clear S1
    rintro j u tu l c io I s1 hj ⟨hno, rfl, rfl⟩ S1
    rw [keys_kf] at hj
    have huW : u ∈ W := List.mem_of_getElem? hj
    obtain ⟨ol, hl1, hl2⟩ := G.hm u huW
    have hget := getK_kf (f := fun v => AV.ref (ma v)) huW
    walk_at "my_go"
    · refine LoopEnd.ret ?_
      walk_at "my_go"
      refine RetK.intro (l' := [("self", .ref g), ("v", .int v), ("node", .int u)]) (cs' := cs) ((by assumption : St _ _ _ _ ((I, io) :: cs) _).cells (by walk_at "my_sub") (by walk_at "my_cnt")) fun s' S' => ?_
      have := h _ ‹_› S'
      rwa [holderOf, find_first hj (by assumption) hno] at this
    · refine LoopEnd.next (c := cs) (l := [("self", .ref g), ("v", .int v)]) ((by assumption : St _ _ _ _ ((I, io) :: cs) _).mono (by walk_at "my_sub") (by walk_at "my_nd") (by walk_at "my_sub") (by walk_at "my_cnt")) ⟨fun x hx => ?_, rfl, rfl⟩
      rcases mem_take_succ hj hx with hx | rfl
      · exact hno x hx
      · assumption
  · rintro l c s' ⟨hno, rfl, rfl⟩ S'
    rw [length_kf, List.take_length] at hno
    walk_at "my_go"
    refine RetK.intro (by assumption) fun s' S' => ?_
    have := h _ ‹_› S'
    rwa [holderOf, List.find?_eq_none.mpr (fun x hx => by rw [hno x hx]; decide)] at this
end
section
variable {w : World} {A : Around} {z s : Shared} {h₀ : Heap} {L : Addr} {l : List (Str × AV)} {cs : List (Addr × Obj)} {n : Nat}
variable {gc : List (Addr × Obj)} {g dx nr mr : Addr} {V W : List Int} {na ma : Int → Addr} {nk mk : Int → List Int}
/-- after the join of a and b -/
def JoinMid (nk : Int → List Int) (T : List Int) (a b x y : Int) : Prop := if x = a then y ∈ nk a ∨ y ∈ T else if x ∈ T then (y ∈ nk x ∧ y ≠ b) ∨ y = a else y ∈ nk x
theorem s_join {a b : Int} {t u : Tok} {Q : Value → Shared → Prop} (C : Cx w A h₀ L (n + 2)) (S : St z h₀ L l (gc ++ cs) s) (G : GA w gc g dx nr mr V na nk V ma mk) (hlV : V.length < 1000)
    (ha : a ∈ V) (hb : b ∈ V) (hab : a ≠ b) (hin : ∀ x ∈ V, ∀ y ∈ nk x, y ∈ V) (hsym : ∀ x ∈ V, ∀ y ∈ nk x, x ∈ nk y) (hirr : ∀ x ∈ V, x ∉ nk x) (hnab : b ∉ nk a) (hml : ∀ x ∈ V, (mk x).length < 1000)
    (h : ∀ gc' nk' s', GA w gc' g dx nr mr (V.filter fun x => decide (x ≠ b)) na nk' (V.filter fun x => decide (x ≠ b)) ma (fun x => if x = a then mk a ++ mk b else mk x) → (∀ x ∈ V, x ≠ b → ∀ y, y ∈ nk' x ↔ JoinAdj nk a b x y) → St z h₀ L l (gc' ++ cs) s' → Q .none s') : WP w A (call (.ref 138) [.ref g, .int a t, .int b u] []) Q s := by
  refine' r_call [("self", .ref g), ("node", .int a), ("other", .int b)] C S ?ho ?hcd ?hbi ?hl ?hbs ?hnd ?_ ?hc ?h1 ?h2 ?h3
  walk_at "my_enter"
  rename_i g' L' A' s1 C' S'
  have gnd := S'.nd_left
  clear C S
  obtain ⟨o, ho1, ho2⟩ := G.hdx
  obtain ⟨onr, hn1, hn2⟩ := G.hnr
  obtain ⟨ob, hb1, hb2⟩ := G.hn b hb
  have hg := G.hg
  have hgetb := getK_kf (f := fun v => AV.ref (na v)) hb
  have hnb : a ∉ nk b := fun hm => hnab (hsym b hb a hm)
  walk_at "my_go"
  rename_i S1
  refine r_iter_dict (by assumption) S1 hb2 (fun j l c => ∃ gc' nk', l = ([("self", .ref g), ("node", .int a), ("other", .int b)] : List (Str × AV)) ∧ c = gc' ++ cs ∧ GA w gc' g dx nr mr V na nk' V ma mk ∧ (na b, ob) ∈ gc' ∧ (∀ x ∈ V, ∀ y, y ∈ nk' x ↔ JoinMid nk ((nk b).take j) a b x y) ∧ gc'.map (·.1) = gc.map (·.1)) ⟨gc, nk, rfl, rfl, G, hb1, ?_, rfl⟩ ?_ ?_ ?_
  · intro x hx y; unfold JoinMid; simp
    intro h; rw [h]
  · rintro j l c ⟨gc', nk', rfl, rfl, _, hm, _⟩; exact List.mem_append_left _ hm
  · clear S1 S' hg ho1 hn1 hn2
    rintro j x tx l c io I s1 hj ⟨gc1, nk1, rfl, rfl, G1, hb1', hadj, hgk⟩ S1
    rw [keys_kf] at hj
    have gnd : (gc1.map (·.1)).Nodup := by rw [hgk]; exact gnd
    have hxb : x ∈ nk b := List.mem_of_getElem? hj
    have hx : x ∈ V := hin b hb x hxb
    obtain ⟨o, ho1, ho2⟩ := G1.hdx
    obtain ⟨onr, hn1, hn2⟩ := G1.hnr
    obtain ⟨ox, hx1, hx2⟩ := G1.hn x hx
    have hg := G1.hg
    have hgetx := getK_kf (f := fun v => AV.ref (na v)) hx
    have hxa : x ≠ a := fun e => hnb (e ▸ hxb)
    have hxb' : x ≠ b := fun e => hirr b hb (e ▸ hxb)
    have hxT : x ∉ (nk b).take j := fun hm => by
      have nd := G.nodupN hb
      obtain ⟨i, hi, e⟩ := List.mem_take_iff_getElem.mp hm
      have e2 : (nk b)[j]? = (nk b)[i]? := by rw [hj, List.getElem?_eq_getElem (by omega), e]
      have := (List.getElem?_inj (lt_of_get hj) nd).mp e2
      omega
    have hTV : ∀ y ∈ (nk b).take j, y ∈ V := fun y hy => hin b hb y (List.mem_of_mem_take hy)
    have hin1 : ∀ x ∈ V, ∀ y ∈ nk1 x, y ∈ V := by
      intro x hx y hy
      rw [hadj x hx] at hy
      unfold JoinMid at hy
      split at hy
      · rcases hy with hy | hy
        · exact hin a ha y hy
        · exact hTV y hy
      · split at hy
        · rcases hy with hy | hy
          · exact hin x hx y hy.1
          · exact hy ▸ ha
        · exact hin x hx y hy
    have hlen1 : ∀ x ∈ V, (nk1 x).length < 1000 := fun x hx => Nat.lt_of_le_of_lt (length_le_of_subset (G1.nodupN hx) (hin1 x hx)) hlV
    have hbx : b ∈ nk1 x := by
      rw [hadj x hx]; unfold JoinMid
      rw [if_neg hxa, if_neg hxT]; exact hsym b hb x hxb
    have hdl : (getK (kt (nk1 x)) b).isSome = true := by rw [isSome_kf]; simp [hbx]
    have hl1 : (kt (nk1 x)).length < 100000 := by rw [length_kf]; have := hlen1 x hx; omega
    walk_at "my_go"
    rename_i o2 s2 hd2 S2
    rw [delK_kf] at hd2
    have G2 := G1.updN hx hd2
    have gnd2 : ((upd gc1 (na x) o2).map (·.1)).Nodup := by rw [keys_upd]; exact gnd
    have hgk2 : (upd gc1 (na x) o2).map (·.1) = gc.map (·.1) := by rw [keys_upd]; exact hgk
    have hb2' : (na b, ob) ∈ upd gc1 (na x) o2 := upd_other hb1' fun e => hxb' (G.ni b hb x hx e).symm
    generalize upd gc1 (na x) o2 = gc2 at S2 G2 gnd2 hgk2 hb2'
    clear ho1 ho2 hn1 hn2 hx1 hx2 hg S1 gnd hb1' hl1
    obtain ⟨o, ho1, ho2⟩ := G2.hdx
    obtain ⟨onr, hn1, hn2⟩ := G2.hnr
    obtain ⟨ox, hx1, hx2⟩ := G2.hn x hx
    have hg := G2.hg
    simp only [if_true] at hx2
    have hl1 : (kt ((nk1 x).filter fun y => decide (y ≠ b))).length < 100000 := by
      rw [length_kf]; have := hlen1 x hx; have := List.length_filter_le (fun y => decide (y ≠ b)) (nk1 x); omega
    walk_at "my_go"
    rename_i o3 s3 hd3 S3
    rw [setK_kt] at hd3
    have G3 := G2.updN hx hd3
    have gnd3 : ((upd gc2 (na x) o3).map (·.1)).Nodup := by rw [keys_upd]; exact gnd2
    have hgk3 : (upd gc2 (na x) o3).map (·.1) = gc.map (·.1) := by rw [keys_upd]; exact hgk2
    have hb3' : (na b, ob) ∈ upd gc2 (na x) o3 := upd_other hb2' fun e => hxb' (G.ni b hb x hx e).symm
    generalize upd gc2 (na x) o3 = gc3 at S3 G3 gnd3 hgk3 hb3'
    clear ho1 ho2 hn1 hn2 hx1 hx2 hg gnd2 hb2' hl1 S2
    obtain ⟨o, ho1, ho2⟩ := G3.hdx
    obtain ⟨onr, hn1, hn2⟩ := G3.hnr
    obtain ⟨oa, ha1, ha2⟩ := G3.hn a ha
    have hg := G3.hg
    have hgeta := getK_kf (f := fun v => AV.ref (na v)) ha
    simp only [hxa.symm, if_false] at ha2
    have hl1 : (kt (nk1 a)).length < 100000 := by rw [length_kf]; have := hlen1 a ha; omega
    walk_at "my_go"
    rename_i o4 s4 hd4 S4
    rw [setK_kt] at hd4
    have G4 := G3.updN ha hd4
    refine LoopEnd.next (c := upd gc3 (na a) o4 ++ cs) (l := [("self", .ref g), ("node", .int a), ("other", .int b)]) (S4.mono (by walk_at "my_sub") (by walk_at "my_nd") (by walk_at "my_sub") (by walk_at "my_cnt")) ⟨_, _, rfl, rfl, G4, upd_other hb3' fun e => hab (G.ni b hb a ha e).symm, fun y hy z => ?_, by rw [keys_upd]; exact hgk3⟩
    by_cases hya : y = a
    · subst hya
      simp only [if_true, mem_addS, hadj y hy]
      unfold JoinMid
      rw [if_pos rfl, if_pos rfl, mem_take_succ' hj]
      simp only [or_comm, or_left_comm, or_assoc]
    · by_cases hyx : y = x
      · subst hyx
        simp only [hya, if_true, if_false, mem_addS, List.mem_filter, decide_eq_true_eq, hadj y hy]
        unfold JoinMid
        rw [if_neg hya, if_neg hya, if_neg hxT, if_pos ((mem_take_succ' hj).mpr (.inr rfl))]
        simp only [or_comm]
      · simp only [hya, hyx, if_false, hadj y hy]
        unfold JoinMid
        rw [if_neg hya, if_neg hya]
        have : y ∈ (nk b).take (j + 1) ↔ y ∈ (nk b).take j := by rw [mem_take_succ' hj]; simp [hyx]
        simp only [this]
  · rintro l c s' ⟨gc1, nk1, rfl, rfl, G1, _, hadj, hgk⟩ S1
    clear hg ho1 hn1 hn2 S'
    rw [length_kf, List.take_length] at hadj
    have gnd : (gc1.map (·.1)).Nodup := by rw [hgk]; exact gnd
    obtain ⟨o, ho1, ho2⟩ := G1.hdx
    obtain ⟨onm, hn1, hn2⟩ := G1.hmr
    obtain ⟨oa, ha1, ha2⟩ := G1.hm a ha
    obtain ⟨omb, hmb1, hmb2⟩ := G1.hm b hb
    have hg := G1.hg
    have hgeta := getK_kf (f := fun v => AV.ref (ma v)) ha
    have hgetb := getK_kf (f := fun v => AV.ref (ma v)) hb
    have hla : ((mk a).map AV.int).length < 1000000 := by have := hml a ha; simp; omega
    have hlb : ((mk b).map AV.int).length < 1000000 := by have := hml b hb; simp; omega
    walk_at "my_go"
    rename_i o2 s2 hd2 S2
    rw [← List.map_append] at hd2
    have G2 := G1.updM ha hd2
    have gnd2 : ((upd gc1 (ma a) o2).map (·.1)).Nodup := by rw [keys_upd]; exact gnd
    generalize upd gc1 (ma a) o2 = gc2 at S2 G2 gnd2
    clear ho1 ho2 hn1 hn2 ha1 ha2 hmb1 hmb2 hg S1 gnd hgeta hgetb hla hlb
    obtain ⟨o, ho1, ho2⟩ := G2.hdx
    obtain ⟨onr, hn1, hn2⟩ := G2.hnr
    have hg := G2.hg
    have hdl : (getK (kf V fun v => AV.ref (na v)) b).isSome = true := by rw [isSome_kf]; simp [hb]
    have hl1 : (kf V fun v => AV.ref (na v)).length < 100000 := by rw [length_kf]; omega
    walk_at "my_go"
    rename_i o3 s3 hd3 S3
    have G3 := G2.delN hd3
    have gnd3 : ((upd gc2 nr o3).map (·.1)).Nodup := by rw [keys_upd]; exact gnd2
    generalize upd gc2 nr o3 = gc3 at S3 G3 gnd3
    clear ho1 ho2 hn1 hn2 hg S2 gnd2 hdl hl1
    obtain ⟨o, ho1, ho2⟩ := G3.hdx
    obtain ⟨onr, hn1, hn2⟩ := G3.hmr
    have hg := G3.hg
    have hdl : (getK (kf V fun v => AV.ref (ma v)) b).isSome = true := by rw [isSome_kf]; simp [hb]
    have hl1 : (kf V fun v => AV.ref (ma v)).length < 100000 := by rw [length_kf]; omega
    walk_at "my_go"
    rename_i o4 s4 hd4 S4
    have G4 := G3.delM hd4
    refine RetK.intro S4 fun s' S' => ?_
    refine h (upd gc3 mr o4) nk1 s' G4 ?_ S'
    intro x hx _ y
    have e := hadj x hx y
    unfold JoinMid at e; unfold JoinAdj; exact e
end
section
variable {w : World} {A : Around} {z s : Shared} {h₀ : Heap} {L : Addr} {l : List (Str × AV)} {cs : List (Addr × Obj)} {n : Nat}
theorem s_most_near {d : Addr} {od : Obj} {R : List Int} {dg : Int → Int} {Q : Value → Shared → Prop} (C : Cx w A h₀ L (n + 2)) (S : St z h₀ L l cs s) (hm : (d, od) ∈ cs) (hd : DI w od (kf R fun v => .int (dg v)))
    (hR : R ≠ []) (hpos : ∀ v ∈ R, 0 ≤ v) (hlen : R.length < 64)
    (h : ∀ b t s', b ∈ R → St z h₀ L l cs s' → Q (.int b t) s') : WP w A (call (.ref 187) [.ref d] []) Q s := by
  refine' r_call [("degrees", .ref d)] C S ?ho ?hcd ?hbi ?hl ?hbs ?hnd ?_ ?hc ?h1 ?h2 ?h3
  walk_at "my_enter"
  clear C S
  have hl1 : (kf R fun v => .int (dg v)).length < 64 := by rw [length_kf]; omega
  walk_at "my_go"
  rename_i D o' ns s1 hns hperm hpw S1
  rw [keys_kf] at hperm
  refine r_iter_list (by assumption) S1 hns (fun j l c => ∃ b, ((j = 0 ∧ b = -1) ∨ b ∈ R) ∧ l = ([("degrees", .ref d), ("best", .int b)] : List (Str × AV)) ∧ c = (D, o') :: cs) ⟨-1, .inl ⟨rfl, rfl⟩, rfl, rfl⟩ ?_ ?_ ?_
  · rintro j l c ⟨b, _, rfl, rfl⟩; exact List.mem_cons_self
  · clear S1
    rintro j v av l c io I s1 hj hv ⟨b, hb, rfl, rfl⟩ S1
    rw [List.getElem?_map, Option.map_eq_some_iff] at hj
    obtain ⟨u, hj, rfl⟩ := hj
    obtain ⟨t, rfl⟩ := hv
    have hu : u ∈ R := hperm.mem_iff.mp (List.mem_of_getElem? hj)
    have hget := getK_kf (f := fun v => AV.int (dg v)) hu
    have hget2 : ¬ (b < 0) → getK (kf R fun v => AV.int (dg v)) b = some (.int (dg b)) := fun hb0 => getK_kf (f := fun v => AV.int (dg v)) (hb.resolve_left fun e => by omega)
    walk_at "my_go"
    · exact LoopEnd.next (c := (D, o') :: cs) (l := [("degrees", .ref d), ("best", .int u)]) (by walk_at "my_mono") ⟨u, .inr hu, rfl, rfl⟩
    · exact LoopEnd.next (c := (D, o') :: cs) (l := [("degrees", .ref d), ("best", .int u)]) (by walk_at "my_mono") ⟨u, .inr hu, rfl, rfl⟩
    · exact LoopEnd.next (c := (D, o') :: cs) (l := [("degrees", .ref d), ("best", .int b)]) (by walk_at "my_mono") ⟨b, .inr (hb.resolve_left fun e => by omega), rfl, rfl⟩
  · rintro l c s' ⟨b, hb, rfl, rfl⟩ S'
    walk_at "my_go"
    refine RetK.intro (l' := [("degrees", .ref d), ("best", .int b)]) (cs' := cs) (by walk_at "my_mono") fun s' S' => ?_
    refine h _ _ _ (hb.resolve_left fun e => ?_) S'
    have := hperm.length_eq
    have : 0 < R.length := List.length_pos_iff.mpr hR
    rw [List.length_map] at e; omega
end
section
variable {w : World} {A : Around} {z s : Shared} {h₀ : Heap} {L : Addr} {l : List (Str × AV)} {cs : List (Addr × Obj)} {n : Nat}
variable {gc : List (Addr × Obj)} {g dx nr mr : Addr} {V W : List Int} {na ma : Int → Addr} {nk mk : Int → List Int}
theorem s_simplify {count : Int} {t : Tok} {Q : Value → Shared → Prop} (C : Cx w A h₀ L (n + 3)) (S : St z h₀ L l cs s) (G : GA w cs g dx nr mr V na nk V ma mk)
    (hin : ∀ x ∈ V, ∀ y ∈ nk x, y ∈ V) (hsym : ∀ x ∈ V, ∀ y ∈ nk x, x ∈ nk y) (hirr : ∀ x ∈ V, x ∉ nk x) (hlen : V.length < 64) (hpos : ∀ v ∈ V, 0 ≤ v)
    (h : ∀ (a : Addr) (oa : Obj) (ord : List Int) s', LI oa (ord.map .int) → ord.Perm V → SimpOk nk count ord → St z h₀ L l ((a, oa) :: cs) s' → Q (.ref a) s') : WP w A (call (.ref 180) [.ref g, .int count t] []) Q s := by
  refine' r_call [("graph", .ref g), ("count", .int count)] C S ?ho ?hcd ?hbi ?hl ?hbs ?hnd ?_ ?hc ?h1 ?h2 ?h3
  walk_at "my_enter"
  rename_i gg LL AA s0 C0 S0
  clear C S
  obtain ⟨o, ho1, ho2⟩ := G.hdx
  obtain ⟨onr, hn1, hn2⟩ := G.hnr
  have hg := G.hg
  have hnl : ∀ x ∈ V, (nk x).length < 64 := fun x hx => Nat.lt_of_le_of_lt (length_le_of_subset (G.nodupN hx) (hin x hx)) hlen
  walk_at "my_go"
  rename_i d od s1 hd S1 s2 S2 s3 S3
  refine r_iter_dict (by assumption) S3 hn2 (fun j l c => ∃ od, DI w od (kf (V.take j) fun v => .int (nk v).length) ∧ l = ([("graph", .ref g), ("count", .int count), ("degrees", .ref d)] : List (Str × AV)) ∧ c = (d, od) :: cs) ⟨od, hd, rfl, rfl⟩ ?_ ?_ ?_
  · rintro j l c ⟨od, _, rfl, rfl⟩; exact List.mem_cons_of_mem _ hn1
  · clear S1 S2 S3 hd
    rintro j v tv l c io I s1 hj ⟨od, hd, rfl, rfl⟩ S1
    rw [keys_kf] at hj
    have hv : v ∈ V := List.mem_of_getElem? hj
    obtain ⟨ov, hv1, hv2⟩ := G.hn v hv
    have hget := getK_kf (f := fun v => AV.ref (na v)) hv
    have hl1 : (kf (V.take j) fun v => .int (nk v).length).length < 100000 := by rw [length_kf, List.length_take]; omega
    have hl2 : (kt (nk v)).length < 100000 := by rw [length_kf]; have := hnl v hv; omega
    walk_at "my_go"
    rename_i o' s' hd' S'
    refine LoopEnd.next (c := (d, o') :: cs) (l := [("graph", .ref g), ("count", .int count), ("degrees", .ref d)]) (by walk_at "my_mono") ⟨_, ?_, rfl, rfl⟩
    rw [length_kf] at hd'
    have hnm : v ∉ V.take j := take_fresh G.nodupV hj
    rw [setK_kf_new (g := fun v => .int (nk v).length) hnm (fun _ _ => rfl)] at hd'
    rw [List.take_add_one, hj]; exact hd'
  · clear S1 S2 S3 hd
    rintro l c s' ⟨od, hd, rfl, rfl⟩ S'
    rw [length_kf, List.take_length] at hd
    walk_at "my_go"
    rename_i a oa s1 hoa S1 s2 S2
    refine r_while (fun k l c => ∃ (R ord : List Int) (od oo : Obj), l = ([("graph", .ref g), ("count", .int count), ("degrees", .ref d), ("order", .ref a)] : List (Str × AV)) ∧ c = (a, oo) :: (d, od) :: cs ∧ LI oo (ord.map .int) ∧ DI w od (kf R fun v => .int (cnt nk v R)) ∧ (ord ++ R).Perm V ∧ SimpMid nk count ord R ∧ R.length = k) V.length (by assumption) ⟨V, [], od, oa, rfl, rfl, hoa, ?_, .refl _, fun i v e => by simp at e, rfl⟩ ?_
    · rw [kf_congr (g := fun v => .int (nk v).length) fun v hv => by rw [cnt_all (hin v hv)]]; exact hd
    · clear S1 S2 S' hd hoa
      rintro k l c s' ⟨R, ord, od, oo, rfl, rfl, hoo, hd, hperm, hmid, rfl⟩ S'
      have hRV : ∀ v ∈ R, v ∈ V := fun v hv => hperm.mem_iff.mp (List.mem_append_right _ hv)
      have hRl : R.length < 64 := by have := hperm.length_eq; rw [List.length_append] at this; omega
      have hl1 : (kf R fun v => .int (cnt nk v R)).length < 64 := by rw [length_kf]; omega
      have hl2 : (kf R fun v => .int (cnt nk v R)).length < 100000 := by omega
      have hRn : R.Nodup := (List.nodup_append.mp (hperm.nodup_iff.mpr G.nodupV)).2.1
      walk_at "my_go"
      · rename_i D o' ns sA hns hperm2 hpw SA
        rw [keys_kf] at hperm2
        have hk0 : (0:Int) < ((kf R fun v => AV.int (cnt nk v R)).length : Nat) := by assumption
        rw [length_kf] at hk0
        have hR0 : R ≠ [] := List.length_pos_iff.mp (by omega)
        refine r_iter_list (by assumption) SA hns (fun j l c => ∃ ch, ((ch = -1 ∧ ∀ x ∈ ns.take j, ¬ (cnt nk x R : Int) < count) ∨ (ch ∈ R ∧ (cnt nk ch R : Int) < count)) ∧ l = ([("graph", .ref g), ("count", .int count), ("degrees", .ref d), ("order", .ref a), ("chosen", .int ch)] : List (Str × AV)) ∧ c = (D, o') :: (a, oo) :: (d, od) :: cs) ⟨-1, .inl ⟨rfl, by simp⟩, rfl, rfl⟩ ?_ ?_ ?_
        · rintro j l c ⟨ch, _, rfl, rfl⟩; exact List.mem_cons_self
        · clear SA S'
          rintro j v av l c io I s1 hj hv ⟨ch, hch, rfl, rfl⟩ S1
          rw [List.getElem?_map, Option.map_eq_some_iff] at hj
          obtain ⟨u, hj, rfl⟩ := hj
          obtain ⟨t, rfl⟩ := hv
          have hu : u ∈ R := hperm2.mem_iff.mp (List.mem_of_getElem? hj)
          have hget := getK_kf (f := fun v => AV.int (cnt nk v R)) hu
          walk_at "my_go"
          · exact LoopEnd.next (c := (D, o') :: (a, oo) :: (d, od) :: cs) (l := [("graph", .ref g), ("count", .int count), ("degrees", .ref d), ("order", .ref a), ("chosen", .int u)]) (by walk_at "my_mono") ⟨u, .inr ⟨hu, by assumption⟩, rfl, rfl⟩
          · rename_i hno _ _
            refine LoopEnd.next (c := (D, o') :: (a, oo) :: (d, od) :: cs) (l := [("graph", .ref g), ("count", .int count), ("degrees", .ref d), ("order", .ref a), ("chosen", .int ch)]) (by walk_at "my_mono") ⟨ch, ?_, rfl, rfl⟩
            rcases hch with ⟨e, h1⟩ | h1
            · refine .inl ⟨e, fun x hx => ?_⟩
              rcases mem_take_succ hj hx with hx | rfl
              · exact h1 x hx
              · assumption
            · exact .inr h1
          · rename_i hno _ _
            refine LoopEnd.next (c := (D, o') :: (a, oo) :: (d, od) :: cs) (l := [("graph", .ref g), ("count", .int count), ("degrees", .ref d), ("order", .ref a), ("chosen", .int ch)]) (by walk_at "my_mono") ⟨ch, ?_, rfl, rfl⟩
            rcases hch with ⟨e, h1⟩ | h1
            · omega
            · exact .inr h1
        · clear SA S'
          rintro l c s1 ⟨ch, hch, rfl, rfl⟩ S1
          rw [List.length_map, List.take_length] at hch
          have hol : ord.length < 64 := by have := hperm.length_eq; rw [List.length_append] at this; omega
          have stp : StopIf := stopIf
          walk_at "my_go"
          refine joinedN (fun s' => ∃ u, u ∈ R ∧ ((∃ x ∈ R, (cnt nk x R : Int) < count) → (cnt nk u R : Int) < count) ∧ St z gg LL [("graph", .ref g), ("count", .int count), ("degrees", .ref d), ("order", .ref a), ("chosen", .int u)] ((D, o') :: (a, oo) :: (d, od) :: cs) s') ?_ ?_
          · clear stp
            rcases hch with ⟨rfl, hno⟩ | ⟨hch, hb⟩
            · walk_at "my_go"
              refine s_most_near (by assumption) (by assumption) (by walk_at "my_mem") hd hR0 (fun v hv => hpos v (hRV v hv)) hRl ?_
              clear S1
              intro u tu s2 hu S2
              walk_at "my_go"
              exact AtNext.mk ⟨u, hu, fun ⟨x, hx, hlt⟩ => absurd hlt (hno x (hperm2.mem_iff.mpr hx)), by walk_at "my_mono"⟩
            · have hc0 := hpos ch (hRV ch hch)
              walk_at "my_go"
              · exfalso; omega
              · exact AtNext.mk ⟨ch, hch, fun _ => hb, by walk_at "my_mono"⟩
          · rintro s2 ⟨u, hu, hbest, S2⟩
            clear stp S1 hch
            have huV : u ∈ V := hRV u hu
            obtain ⟨ou, hu1, hu2⟩ := G.hn u huV
            have hgetu := getK_kf (f := fun v => AV.ref (na v)) huV
            have hdl : (getK (kf R fun v => AV.int (cnt nk v R)) u).isSome = true := by rw [isSome_kf]; simp [hu]
            walk_at "my_go"
            rename_i oo2 sB hoo2 SB tB od2 sC hd2 SC sD SD tE sE SE
            clear SB SC SD
            rw [delK_kf] at hd2
            have hmR := simp_mid hu hmid hbest
            have hpR := simp_perm hRn hu hperm
            have hlR := simp_len hRn hu
            have hcR : ∀ v ∈ V, cnt nk v (R.filter fun x => decide (x ≠ u)) + (if v ∈ nk u then 1 else 0) = cnt nk v R := fun v hv => by
              rw [← cnt_del (G.nodupN hv) hu]
              congr 1
              by_cases e : v ∈ nk u
              · simp [e, hsym u huV v e]
              · have : u ∉ nk v := fun e2 => e (hsym v hv u e2)
                simp [e, this]
            have hRR : ∀ v ∈ R.filter (fun x => decide (x ≠ u)), v ∈ V := fun v hv => hRV v (List.mem_filter.mp hv).1
            clear hmid hbest
            generalize R.filter (fun x => decide (x ≠ u)) = R2 at hd2 hmR hpR hlR hcR hRR
            refine r_iter_dict (l := [("graph", .ref g), ("count", .int count), ("degrees", .ref d), ("order", .ref a), ("chosen", .int u)]) (cs := (D, o') :: (a, oo2) :: (d, od2) :: cs) (by assumption) (by walk_at "my_mono") hu2 (fun j l c => ∃ od2, DI w od2 (kf R2 fun v => .int ((cnt nk v R : Int) - (if v ∈ (nk u).take j then 1 else 0))) ∧ l = ([("graph", .ref g), ("count", .int count), ("degrees", .ref d), ("order", .ref a), ("chosen", .int u)] : List (Str × AV)) ∧ c = (D, o') :: (a, oo2) :: (d, od2) :: cs) ⟨od2, by simpa using hd2, rfl, rfl⟩ ?_ ?_ ?_
            · rintro j l c ⟨od, _, rfl, rfl⟩; exact .tail _ (.tail _ (.tail _ hu1))
            · clear SE hd2
              rintro j x tx l c io I s1 hj ⟨od3, hd3, rfl, rfl⟩ S1
              rw [keys_kf] at hj
              have hxT := take_fresh (G.nodupN huV) hj
              have hget3 : (getK (kf R2 fun v => .int ((cnt nk v R : Int) - (if v ∈ (nk u).take j then 1 else 0))) x).isSome = true → getK (kf R2 fun v => .int ((cnt nk v R : Int) - (if v ∈ (nk u).take j then 1 else 0))) x = some (.int ((cnt nk x R : Int) - (if x ∈ (nk u).take j then 1 else 0))) := fun hs => getK_kf (f := fun v => AV.int ((cnt nk v R : Int) - (if v ∈ (nk u).take j then 1 else 0))) (by rw [isSome_kf] at hs; simpa using hs)
              have hl3 : (kf R2 fun v => AV.int ((cnt nk v R : Int) - (if v ∈ (nk u).take j then 1 else 0))).length < 100000 := by rw [length_kf]; omega
              walk_at "my_go"
              · rename_i o4 s4 hd4 S4
                have hx : x ∈ R2 := by
                  have hs : (getK (kf R2 fun v => AV.int ((cnt nk v R : Int) - (if v ∈ (nk u).take j then 1 else 0))) x).isSome = true := by assumption
                  rw [isSome_kf] at hs; simpa using hs
                rw [setK_kf_old hx] at hd4
                refine LoopEnd.next (c := (D, o') :: (a, oo2) :: (d, o4) :: cs) (l := [("graph", .ref g), ("count", .int count), ("degrees", .ref d), ("order", .ref a), ("chosen", .int u)]) (by walk_at "my_mono") ⟨o4, ?_, rfl, rfl⟩
                rw [kf_congr (f := fun v => AV.int ((cnt nk v R : Int) - (if v ∈ (nk u).take (j + 1) then 1 else 0)))]
                · exact hd4
                · intro v _
                  by_cases e : v = x
                  · subst e; simp [mem_take_succ' hj, hxT]
                  · simp [mem_take_succ' hj, e]
              · have hx : x ∉ R2 := by
                  have hs : (getK (kf R2 fun v => AV.int ((cnt nk v R : Int) - (if v ∈ (nk u).take j then 1 else 0))) x).isSome = false := by assumption
                  rw [isSome_kf] at hs; simpa using hs
                refine LoopEnd.next (c := (D, o') :: (a, oo2) :: (d, od3) :: cs) (l := [("graph", .ref g), ("count", .int count), ("degrees", .ref d), ("order", .ref a), ("chosen", .int u)]) (by walk_at "my_mono") ⟨od3, ?_, rfl, rfl⟩
                rw [kf_congr (f := fun v => AV.int ((cnt nk v R : Int) - (if v ∈ (nk u).take (j + 1) then 1 else 0)))]
                · exact hd3
                · intro v hv
                  have e : v ≠ x := fun e => hx (e ▸ hv)
                  simp [mem_take_succ' hj, e]
            · clear SE hd2
              rintro l c s1 ⟨od3, hd3, rfl, rfl⟩ S1
              rw [length_kf, List.take_length] at hd3
              walk_at "my_go"
              refine WEnd.next (c := (a, oo2) :: (d, od3) :: cs) (l := [("graph", .ref g), ("count", .int count), ("degrees", .ref d), ("order", .ref a)]) (by walk_at "my_mono") (m := R2.length) (by omega) ⟨R2, ord ++ [u], od3, oo2, rfl, rfl, by rw [List.map_append]; exact hoo2, ?_, hpR, hmR, rfl⟩
              rw [kf_congr (f := fun v => AV.int (cnt nk v R2))]
              · exact hd3
              · intro v hv
                have := hcR v (hRR v hv)
                by_cases e : v ∈ nk u
                · simp only [e, if_true] at this ⊢; congr 1; omega
                · simp only [e, if_false] at this ⊢; congr 1; omega
      · refine RetK.intro (l' := [("graph", .ref g), ("count", .int count), ("degrees", .ref d), ("order", .ref a)]) (cs' := (a, oo) :: cs) (by walk_at "my_mono") fun s' S' => ?_
        have hk0 : ¬ (0:Int) < ((kf R fun v => AV.int (cnt nk v R)).length : Nat) := by assumption
        rw [length_kf] at hk0
        have hR0 : R = [] := List.length_eq_zero_iff.mp (by omega)
        subst hR0
        rw [List.append_nil] at hperm
        refine h _ _ _ _ hoo hperm (fun i v e hx => ?_) S'
        exact hmid i v e (ord.drop i) (fun x => by simp) hx
end
section
variable {w : World} {A : Around} {z s : Shared} {h₀ : Heap} {L : Addr} {l : List (Str × AV)} {cs : List (Addr × Obj)} {n : Nat}
variable {gc : List (Addr × Obj)} {g dx nr mr : Addr} {V W : List Int} {na ma : Int → Addr} {nk mk : Int → List Int}
theorem s_colour {count : Int} {t : Tok} {a : Addr} {oa : Obj} {ord : List Int} {Q : Value → Shared → Prop} (C : Cx w A h₀ L (n + 3)) (S : St z h₀ L l cs s) (G : GA w cs g dx nr mr V na nk V ma mk)
    (hin : ∀ x ∈ V, ∀ y ∈ nk x, y ∈ V) (hsym : ∀ x ∈ V, ∀ y ∈ nk x, x ∈ nk y) (hirr : ∀ x ∈ V, x ∉ nk x) (hlen : V.length < 64) (hma : (a, oa) ∈ cs) (hoa : LI oa (ord.map .int)) (hperm : ord.Perm V)
    (h : ∀ (cl : Addr) (oc : Obj) (K : List Int) (col : Int → Int) s', DI w oc (kf K fun v => .int (col v)) → (∀ v ∈ K, v ∈ V) → ColOk nk count K col → (∀ i v, ord[i]? = some v → (cnt nk v (ord.drop i) : Int) < count → v ∈ K) →
      St z h₀ L l ((cl, oc) :: cs) s' → Q (.ref cl) s') : WP w A (call (.ref 194) [.ref g, .ref a, .int count t] []) Q s := by
  refine' r_call [("graph", .ref g), ("order", .ref a), ("count", .int count)] C S ?ho ?hcd ?hbi ?hl ?hbs ?hnd ?_ ?hc ?h1 ?h2 ?h3
  walk_at "my_enter"
  clear C S
  obtain ⟨o, ho1, ho2⟩ := G.hdx
  obtain ⟨onr, hn1, hn2⟩ := G.hnr
  have hg := G.hg
  have hnl : ∀ x ∈ V, (nk x).length < 64 := fun x hx => Nat.lt_of_le_of_lt (length_le_of_subset (G.nodupN hx) (hin x hx)) hlen
  have hon : ord.Nodup := hperm.nodup_iff.mpr G.nodupV
  have hol := hperm.length_eq
  walk_at "my_go"
  rename_i cl oc s1 hcl S1 s2 S2 r ro s3 hrev S3
  rw [← List.length_map (as := ord) (f := AV.int)] at hol
  refine r_iter_rev (by assumption) S3 hrev hoa (fun j l c => ∃ oc K col, DI w oc (kf K fun v => .int (col v)) ∧ (∀ v ∈ K, v ∈ ord.drop (ord.length - j)) ∧ ColOk nk count K col ∧ (∀ i v, ord.length - j ≤ i → ord[i]? = some v → (cnt nk v (ord.drop i) : Int) < count → v ∈ K) ∧ l = ([("graph", .ref g), ("order", .ref a), ("count", .int count), ("colours", .ref cl)] : List (Str × AV)) ∧ c = (cl, oc) :: cs)
    ⟨oc, [], fun _ => 0, hcl, by simp, ⟨by simp, by simp, by simp⟩, fun i v hi e => by have := lt_of_get e; omega, rfl, rfl⟩ ?_ ?_ ?_
  · rintro j l c ⟨oc, K, col, _, _, _, _, rfl, rfl⟩; exact .tail _ hma
  · clear S1 S2 S3 hcl hrev
    rintro j v av l c io I s1 hj hv ⟨oc, K, col, hK, hKo, hok, hall, rfl, rfl⟩ S1
    rw [← List.map_reverse, List.getElem?_map, Option.map_eq_some_iff] at hj
    obtain ⟨x, hj, rfl⟩ := hj
    obtain ⟨tx, rfl⟩ := hv
    have hjl : j < ord.length := by have := lt_of_get hj; simpa using this
    rw [List.getElem?_reverse hjl] at hj
    obtain ⟨i, hi⟩ : ∃ i, i = ord.length - 1 - j := ⟨_, rfl⟩
    rw [← hi] at hj
    have hij : ord.length - j = i + 1 := by omega
    rw [hij] at hKo hall
    have hxV : x ∈ V := hperm.mem_iff.mp (List.mem_of_getElem? hj)
    obtain ⟨ox, hx1, hx2⟩ := G.hn x hxV
    have hgetx := getK_kf (f := fun v => AV.ref (na v)) hxV
    have hKV : ∀ v ∈ K, v ∈ V := fun v hv => hperm.mem_iff.mp (List.mem_of_mem_drop (hKo v hv))
    have hKn : K.Nodup := by have := hK.nodup; rwa [keys_kf] at this
    have hKl : K.length ≤ V.length := length_le_of_subset hKn hKV
    have hxK : x ∉ K := fun e => drop_fresh hon hj (hKo x e)
    walk_at "my_go"
    rename_i tk ot s2 hot S2 s3 S3 s4 S4 tt s5 S5
    refine r_iter_dict (l := [("graph", .ref g), ("order", .ref a), ("count", .int count), ("colours", .ref cl), ("node", .int x), ("taken", .ref tk)]) (cs := (tk, ot) :: (I, io) :: (cl, oc) :: cs) (by assumption) (by walk_at "my_mono") hx2
      (fun q l c => ∃ (ot : Obj) (tks : List Int), LI ot (tks.map .int) ∧ tks.length = (((nk x).take q).filter fun y => decide (y ∈ K)).length ∧ (∀ y ∈ (nk x).take q, y ∈ K → col y ∈ tks) ∧ l = ([("graph", .ref g), ("order", .ref a), ("count", .int count), ("colours", .ref cl), ("node", .int x), ("taken", .ref tk)] : List (Str × AV)) ∧ c = (tk, ot) :: (I, io) :: (cl, oc) :: cs)
      ⟨ot, [], hot, by simp, by simp, rfl, rfl⟩ ?_ ?_ ?_
    · rintro j l c ⟨oc, tks, _, _, _, rfl, rfl⟩; exact .tail _ (.tail _ (.tail _ hx1))
    · clear S1 S2 S3 S4 S5 hot
      rintro q y ty l c io2 I2 s1 hq ⟨ot, tks, hot, htl, htc, rfl, rfl⟩ S1
      rw [keys_kf] at hq
      have hgety : (getK (kf K fun v => .int (col v)) y).isSome = true → getK (kf K fun v => .int (col v)) y = some (.int (col y)) := fun hs => getK_kf (f := fun v => AV.int (col v)) (by rw [isSome_kf] at hs; simpa using hs)
      have htl2 : tks.length < 100000 := by
        have h1 := List.length_filter_le (fun y => decide (y ∈ K)) ((nk x).take q)
        have h2 := hnl x hxV
        rw [List.length_take] at h1; omega
      walk_at "my_go"
      · rename_i ot2 s4 hot2 S4
        have hy : y ∈ K := by
          have hs : (getK (kf K fun v => AV.int (col v)) y).isSome = true := by assumption
          rw [isSome_kf] at hs; simpa using hs
        refine LoopEnd.next (c := (tk, ot2) :: (I, io) :: (cl, oc) :: cs) (l := [("graph", .ref g), ("order", .ref a), ("count", .int count), ("colours", .ref cl), ("node", .int x), ("taken", .ref tk)]) (by walk_at "my_mono") ⟨ot2, tks ++ [col y], by rw [List.map_append]; exact hot2, ?_, fun v hv hvK => ?_, rfl, rfl⟩
        · rw [List.take_add_one, hq]; simp [hy, htl]
        · rcases mem_take_succ hq hv with hv | rfl
          · exact List.mem_append_left _ (htc v hv hvK)
          · simp
      · have hy : y ∉ K := by
          have hs : (getK (kf K fun v => AV.int (col v)) y).isSome = false := by assumption
          rw [isSome_kf] at hs; simpa using hs
        refine LoopEnd.next (c := (tk, ot) :: (I, io) :: (cl, oc) :: cs) (l := [("graph", .ref g), ("order", .ref a), ("count", .int count), ("colours", .ref cl), ("node", .int x), ("taken", .ref tk)]) (by walk_at "my_mono") ⟨ot, tks, hot, ?_, fun v hv hvK => ?_, rfl, rfl⟩
        · rw [List.take_add_one, hq]; simp [hy, htl]
        · rcases mem_take_succ hq hv with hv | rfl
          · exact htc v hv hvK
          · exact absurd hvK hy
    · clear S1 S2 S3 S4 S5 hot
      rintro l c s1 ⟨ot, tks, hot, htl, htc, rfl, rfl⟩ S1
      rw [length_kf, List.take_length] at htl htc
      have hKl2 : (kf K fun v => AV.int (col v)).length < 100000 := by rw [length_kf]; omega
      walk_at "my_go"
      refine s_lowest (by assumption) (by assumption) (by walk_at "my_mem") hot ?_
      intro m tm s2 hm0 hm1 hm2 S2
      have hml := lowest_le hm0 hm2
      have hKcnt : ((nk x).filter fun y => decide (y ∈ K)).length ≤ cnt nk x (ord.drop i) := by
        unfold cnt
        refine length_le_of_subset ((G.nodupN hxV).filter _) fun y hy => ?_
        rw [List.mem_filter] at hy ⊢
        refine ⟨hy.1, ?_⟩
        have := hKo y (by simpa using hy.2)
        simp only [decide_eq_true_eq]
        exact (drop_step hj).mpr (.inr this)
      walk_at "my_go"
      · rename_i oc2 s3 hoc2 S3
        have hmc : m < count := by assumption
        have e2 : setK (kf K fun v => AV.int (col v)) x (.int m) = kf (K ++ [x]) fun v => .int (if v = x then m else col v) := by
          have := setK_kf_new (f := fun v => AV.int (col v)) (g := fun v => AV.int (if v = x then m else col v)) hxK (fun u hu => by have : u ≠ x := fun e => hxK (e ▸ hu); simp [this])
          simpa using this
        rw [e2] at hoc2
        refine LoopEnd.next (c := (cl, oc2) :: cs) (l := [("graph", .ref g), ("order", .ref a), ("count", .int count), ("colours", .ref cl)]) (by walk_at "my_mono") ⟨oc2, K ++ [x], fun v => if v = x then m else col v, hoc2, fun v hv => ?_, ?_, fun i' v hi' hv hcnt => ?_, rfl, rfl⟩
        · rw [show ord.length - (j + 1) = i by omega, drop_step hj]
          rcases List.mem_append.mp hv with hv | hv
          · exact .inr (hKo v hv)
          · exact .inl (by simpa using hv)
        · exact hok.add hxK hm0 hmc (hirr x hxV) (fun u hu hxu => hsym u (hKV u hu) x hxu) (fun u hu hux e => hm1 (e ▸ htc u hux hu))
        · rcases Nat.lt_or_ge i i' with h2 | h2
          · exact List.mem_append_left _ (hall i' v (by omega) hv hcnt)
          · have e3 : i' = i := by omega
            subst e3
            rw [hj] at hv; cases hv; simp
      · have hmc : ¬ m < count := by assumption
        refine LoopEnd.next (c := (cl, oc) :: cs) (l := [("graph", .ref g), ("order", .ref a), ("count", .int count), ("colours", .ref cl)]) (by walk_at "my_mono") ⟨oc, K, col, hK, fun v hv => ?_, hok, fun i' v hi' hv hcnt => ?_, rfl, rfl⟩
        · rw [show ord.length - (j + 1) = i by omega, drop_step hj]
          exact .inr (hKo v hv)
        · rcases Nat.lt_or_ge i i' with h2 | h2
          · exact hall i' v (by omega) hv hcnt
          · have e3 : i' = i := by omega
            subst e3
            rw [hj] at hv; cases hv
            omega
  · rintro l c s1 ⟨oc, K, col, hK, hKo, hok, hall, rfl, rfl⟩ S1
    walk_at "my_go"
    refine RetK.intro (by assumption) fun s' S' => ?_
    refine h _ _ K col _ hK (fun v hv => hperm.mem_iff.mp (List.mem_of_mem_drop (hKo v hv))) hok (fun i v => hall i v ?_) S'
    rw [List.length_map]; omega
end
section
variable {w : World} {A : Around} {z s : Shared} {h₀ : Heap} {L : Addr} {l : List (Str × AV)} {cs : List (Addr × Obj)} {n : Nat}
variable {gc : List (Addr × Obj)} {g dx nr mr : Addr} {V W : List Int} {na ma : Int → Addr} {nk mk : Int → List Int}
theorem s_heavy {a b count : Int} {ta tb tc : Tok} {Q : Value → Shared → Prop} (C : Cx w A h₀ L (n + 1)) (S : St z h₀ L l cs s) (G : GA w cs g dx nr mr V na nk V ma mk)
    (hin : ∀ x ∈ V, ∀ y ∈ nk x, y ∈ V) (hlen : V.length < 64) (ha : a ∈ V) (hb : b ∈ V)
    (h : ∀ B t s', B.Nodup → (∀ x, x ∈ B ↔ x ∈ nk a ∨ x ∈ nk b) → St z h₀ L l cs s' → Q (.int (heavyCount nk a b count B) t) s') : WP w A (call (.ref 166) [.ref g, .int a ta, .int b tb, .int count tc] []) Q s := by
  refine' r_call [("graph", .ref g), ("node", .int a), ("other", .int b), ("count", .int count)] C S ?ho ?hcd ?hbi ?hl ?hbs ?hnd ?_ ?hc ?h1 ?h2 ?h3
  walk_at "my_enter"
  rename_i gg LL AA s0 C0 S0
  clear C S
  obtain ⟨o, ho1, ho2⟩ := G.hdx
  obtain ⟨onr, hn1, hn2⟩ := G.hnr
  have hg := G.hg
  have hnl : ∀ x ∈ V, (nk x).length < 64 := fun x hx => Nat.lt_of_le_of_lt (length_le_of_subset (G.nodupN hx) (hin x hx)) hlen
  obtain ⟨oa, ha1, ha2⟩ := G.hn a ha
  obtain ⟨ob, hb1, hb2⟩ := G.hn b hb
  have hgeta := getK_kf (f := fun v => AV.ref (na v)) ha
  have hgetb := getK_kf (f := fun v => AV.ref (na v)) hb
  walk_at "my_go"
  rename_i bo oo s1 hoo S1 s2 S2 s3 S3 tt s4 S4
  refine r_iter_dict (l := [("graph", .ref g), ("node", .int a), ("other", .int b), ("count", .int count), ("both", .ref bo)]) (cs := (bo, oo) :: cs) (by assumption) (by walk_at "my_mono") ha2
    (fun j l c => ∃ oo B, DI w oo (kt B) ∧ (∀ x, x ∈ B ↔ x ∈ (nk a).take j) ∧ l = ([("graph", .ref g), ("node", .int a), ("other", .int b), ("count", .int count), ("both", .ref bo)] : List (Str × AV)) ∧ c = (bo, oo) :: cs) ⟨oo, [], hoo, by simp, rfl, rfl⟩ ?_ ?_ ?_
  · rintro j l c ⟨oo, B, _, _, rfl, rfl⟩; exact .tail _ ha1
  · clear S1 S2 S3 S4 hoo
    rintro j x tx l c io I s1 hj ⟨oo, B, hoo, hB, rfl, rfl⟩ S1
    rw [keys_kf] at hj
    have hBl : (kt B).length < 100000 := by
      have hBn : B.Nodup := by have := hoo.nodup; rwa [keys_kf] at this
      have := length_le_of_subset hBn (b := nk a) (fun x hx => List.mem_of_mem_take ((hB x).mp hx))
      rw [length_kf]; have := hnl a ha; omega
    walk_at "my_go"
    rename_i o2 s2 h2 S2
    rw [setK_kt] at h2
    exact LoopEnd.next (c := (bo, o2) :: cs) (l := [("graph", .ref g), ("node", .int a), ("other", .int b), ("count", .int count), ("both", .ref bo)]) (by walk_at "my_mono") ⟨o2, _, h2, fun y => by rw [mem_addS, hB, mem_take_succ' hj, or_comm], rfl, rfl⟩
  · clear S1 S2 S3 S4 hoo
    rintro l c s1 ⟨oo, B, hoo, hB, rfl, rfl⟩ S1
    rw [length_kf, List.take_length] at hB
    walk_at "my_go"
    refine r_iter_dict (l := [("graph", .ref g), ("node", .int a), ("other", .int b), ("count", .int count), ("both", .ref bo)]) (cs := (bo, oo) :: cs) (by assumption) (by walk_at "my_mono") hb2
      (fun j l c => ∃ oo B, DI w oo (kt B) ∧ (∀ x, x ∈ B ↔ x ∈ nk a ∨ x ∈ (nk b).take j) ∧ l = ([("graph", .ref g), ("node", .int a), ("other", .int b), ("count", .int count), ("both", .ref bo)] : List (Str × AV)) ∧ c = (bo, oo) :: cs) ⟨oo, B, hoo, by simpa using hB, rfl, rfl⟩ ?_ ?_ ?_
    · rintro j l c ⟨oo, B, _, _, rfl, rfl⟩; exact .tail _ hb1
    · clear S1 hoo hB
      rintro j x tx l c io I s1 hj ⟨oo, B, hoo, hB, rfl, rfl⟩ S1
      rw [keys_kf] at hj
      have hBl : (kt B).length < 100000 := by
        have hBn : B.Nodup := by have := hoo.nodup; rwa [keys_kf] at this
        have := length_le_of_subset hBn (b := V) (fun x hx => by
          rcases (hB x).mp hx with h | h
          · exact hin a ha x h
          · exact hin b hb x (List.mem_of_mem_take h))
        rw [length_kf]; omega
      walk_at "my_go"
      rename_i o2 s2 h2 S2
      rw [setK_kt] at h2
      refine LoopEnd.next (c := (bo, o2) :: cs) (l := [("graph", .ref g), ("node", .int a), ("other", .int b), ("count", .int count), ("both", .ref bo)]) (by walk_at "my_mono") ⟨o2, _, h2, fun y => ?_, rfl, rfl⟩
      rw [mem_addS, hB, mem_take_succ' hj]
      constructor
      · rintro (h | h | h)
        · exact .inr (.inr h)
        · exact .inl h
        · exact .inr (.inl h)
      · rintro (h | h | h)
        · exact .inr (.inl h)
        · exact .inr (.inr h)
        · exact .inl h
    · clear S1 hoo hB
      rintro l c s1 ⟨oo, B, hoo, hB, rfl, rfl⟩ S1
      rw [length_kf, List.take_length] at hB
      have hBn : B.Nodup := by have := hoo.nodup; rwa [keys_kf] at this
      have hBV : ∀ x ∈ B, x ∈ V := fun x hx => by
        rcases (hB x).mp hx with h | h
        · exact hin a ha x h
        · exact hin b hb x h
      walk_at "my_go"
      refine r_iter_dict (l := [("graph", .ref g), ("node", .int a), ("other", .int b), ("count", .int count), ("both", .ref bo), ("heavy", .int 0)]) (cs := (bo, oo) :: cs) (by assumption) (by walk_at "my_mono") hoo
        (fun j l c => l = ([("graph", .ref g), ("node", .int a), ("other", .int b), ("count", .int count), ("both", .ref bo), ("heavy", .int (heavyCount nk a b count (B.take j)))] : List (Str × AV)) ∧ c = (bo, oo) :: cs) ⟨rfl, rfl⟩ ?_ ?_ ?_
      · rintro j l c ⟨rfl, rfl⟩; exact .head _
      · clear S1
        rintro j x tx l c io I s1 hj ⟨rfl, rfl⟩ S1
        rw [keys_kf] at hj
        have hxV := hBV x (List.mem_of_getElem? hj)
        obtain ⟨ox, hx1, hx2⟩ := G.hn x hxV
        have hgetx := getK_kf (f := fun v => AV.ref (na v)) hxV
        have hxl : (kt (nk x)).length < 100000 := by rw [length_kf]; have := hnl x hxV; omega
        have stp : StopIf := stopIf
        walk_at "my_go"
        refine joinedN (fun s' => St z gg LL [("graph", .ref g), ("node", .int a), ("other", .int b), ("count", .int count), ("both", .ref bo), ("heavy", .int (heavyCount nk a b count (B.take j))), ("third", .int x), ("degree", .int (heavyDeg nk a b x))] ((I, io) :: (bo, oo) :: cs) s') ?_ ?_
        · clear stp
          walk_at "my_go"
          · exact AtNext.mk (by rw [← hdeg_both (nk := nk) (a := a) (b := b) (x := x) (by assumption) (by assumption)]; walk_at "my_mono")
          · exact AtNext.mk (by rw [← hdeg_no2 (nk := nk) (a := a) (b := b) (x := x) (by assumption)]; walk_at "my_mono")
          · exact AtNext.mk (by rw [← hdeg_no1 (nk := nk) (a := a) (b := b) (x := x) (by assumption)]; walk_at "my_mono")
        · intro s2 S2
          clear stp S1
          walk_at "my_go"
          · refine LoopEnd.next (c := (bo, oo) :: cs) (l := [("graph", .ref g), ("node", .int a), ("other", .int b), ("count", .int count), ("both", .ref bo), ("heavy", .int (heavyCount nk a b count (B.take j) + 1))]) (by walk_at "my_mono") ⟨?_, rfl⟩
            rw [hvy_yes hj rfl (by assumption)]
          · refine LoopEnd.next (c := (bo, oo) :: cs) (l := [("graph", .ref g), ("node", .int a), ("other", .int b), ("count", .int count), ("both", .ref bo), ("heavy", .int (heavyCount nk a b count (B.take j)))]) (by walk_at "my_mono") ⟨?_, rfl⟩
            rw [hvy_no hj rfl (by assumption)]
      · clear S1
        rintro l c s1 ⟨rfl, rfl⟩ S1
        rw [length_kf, List.take_length] at S1
        walk_at "my_go"
        refine RetK.intro (l' := [("graph", .ref g), ("node", .int a), ("other", .int b), ("count", .int count), ("both", .ref bo)]) (cs' := cs) (by walk_at "my_mono") fun s' S' => ?_
        exact h B _ _ hBn hB S'
end
section
variable {w : World} {A : Around} {z s : Shared} {h₀ : Heap} {L : Addr} {l : List (Str × AV)} {cs : List (Addr × Obj)} {n : Nat}
variable {gc : List (Addr × Obj)} {g dx nr mr : Addr} {V W : List Int} {na ma : Int → Addr} {nk mk : Int → List Int}
theorem s_coalesce {names : List Int} {rows : List Row} {ra : Addr} {ro : Obj} {count : Int} {tc : Tok} {Q : Value → Shared → Prop} (C : Cx w A h₀ L (n + 3)) (S : St z h₀ L l (gc ++ cs) s) (G : GA w gc g dx nr mr V na nk V ma mk) (P : GP names V nk mk)
    (hR : RowsAt cs ra ro rows) (hlen : names.length < 64) (hnn : names.Nodup) (hcopy : ∀ r ∈ rows, (r.kind == "copy") = true → r.name ∈ names ∧ r.left ∈ names)
    (h : ∀ gc' V' nk' mk' (jn : Int) (t : Tok) s', GA w gc' g dx nr mr V' na nk' V' ma mk' → GP names V' nk' mk' → CoRun count rows (V, nk, mk) (V', nk', mk') → St z h₀ L l (gc' ++ cs) s' → Q (.int jn t) s') : WP w A (call (.ref 173) [.ref g, .ref ra, .int count tc] []) Q s := by
  refine' r_call [("graph", .ref g), ("rows", .ref ra), ("count", .int count)] C S ?ho ?hcd ?hbi ?hl ?hbs ?hnd ?_ ?hc ?h1 ?h2 ?h3
  walk_at "my_enter"
  clear C S
  obtain ⟨mra, as, hLr, hal, hrow⟩ := hR
  walk_at "my_go"
  rename_i S0
  refine r_iter_list (by assumption) S0 hLr (fun j l c => ∃ gc1 V1 nk1 mk1 jn, GA w gc1 g dx nr mr V1 na nk1 V1 ma mk1 ∧ GP names V1 nk1 mk1 ∧ CoRun count (rows.take j) (V, nk, mk) (V1, nk1, mk1) ∧ l = ([("graph", .ref g), ("rows", .ref ra), ("count", .int count), ("joins", .int jn)] : List (Str × AV)) ∧ c = gc1 ++ cs) ⟨gc, V, nk, mk, 0, G, P, .nil, rfl, rfl⟩ ?_ ?_ ?_
  · rintro j l c ⟨gc1, _, _, _, _, _, _, _, rfl, rfl⟩; exact List.mem_append_right _ mra
  · clear S0 G P
    rintro j v av l c io I s1 hj hv ⟨gc1, V1, nk1, mk1, jn, G, P, hrun, rfl, rfl⟩ S1
    obtain ⟨r, hr⟩ : ∃ r, rows[j]? = some r := by
      have := lt_of_get hj
      rw [List.length_map] at this
      exact ⟨rows[j]'(by omega), List.getElem?_eq_getElem _⟩
    obtain ⟨rw1, o, ha, hmem, ho⟩ := hrow j r hr
    rw [List.getElem?_map, ha] at hj
    cases hj
    cases hv
    have hcr := hcopy r (List.mem_of_getElem? hr)
    unfold Row.avs at ho
    obtain ⟨og, ho1, ho2⟩ := G.hdx
    obtain ⟨onr, hn1, hn2⟩ := G.hnr
    have hg := G.hg
    walk_at "my_go"
    · -- a copy
      have hk : (r.kind == "copy") = true := by assumption
      obtain ⟨hc1, hc2⟩ := hcr hk
      have G0 : GA w ((I, io) :: (gc1 ++ cs)) g dx nr mr V1 na nk1 V1 ma mk1 := G.mono fun p hp => .tail _ (List.mem_append_left _ hp)
      refine s_holder (by assumption) (by assumption) G0 ?_
      intro s2 t2 S2
      walk_at "my_go"
      refine s_holder (by assumption) (by assumption) G0 ?_
      intro s3 t3 S3
      obtain ⟨ha1, ha2⟩ := P.holder hc1
      obtain ⟨hb1, hb2⟩ := P.holder hc2
      generalize hA : holderOf V1 mk1 r.name = a at ha1 ha2 S2 S3
      generalize hB : holderOf V1 mk1 r.left = b at hb1 hb2 S3
      obtain ⟨ona, hna1, hna2⟩ := G.hn a ha1
      have hgeta := getK_kf (f := fun v => AV.ref (na v)) ha1
      have hVl : V1.length < 64 := by have := length_le_of_subset P.vn P.vs; omega
      walk_at "my_go"
      · have hin : (getK (kt (nk1 a)) b).isSome = true := by assumption
        rw [isSome_kf, decide_eq_true_eq] at hin
        refine LoopEnd.next (c := gc1 ++ cs) (l := [("graph", .ref g), ("rows", .ref ra), ("count", .int count), ("joins", .int jn)]) (by walk_at "my_mono") ⟨gc1, V1, nk1, mk1, jn, G, P, ?_, rfl, rfl⟩
        rw [List.take_add_one, hr]
        refine hrun.snoc (.inr ⟨fun h => ?_, rfl⟩)
        have := h.2.2.1
        dsimp only at this
        rw [hA, hB] at this
        exact this hin
      · have hab : a ≠ b := by assumption
        have hnab : (getK (kt (nk1 a)) b).isSome = false := by assumption
        rw [isSome_kf, decide_eq_false_iff_not] at hnab
        have hnba : a ∉ nk1 b := fun h => hnab (P.hsym b hb1 a h)
        refine s_heavy (by assumption) (by assumption) G0 P.hin hVl ha1 hb1 ?_
        intro B tB sB hBn hBm SB
        walk_at "my_go"
        · have hlt : heavyCount nk1 a b count B < count := by assumption
          have hmn : (if b < a then b else a) ∈ V1 := by split <;> assumption
          have hmx : (if b > a then b else a) ∈ V1 := by split <;> assumption
          have hne : (if b < a then b else a) ≠ (if b > a then b else a) := by split <;> split <;> omega
          have hnm : (if b > a then b else a) ∉ nk1 (if b < a then b else a) := by
            split <;> split
            · omega
            · exact hnba
            · exact hnab
            · omega
          have hor : ((if b < a then b else a) = a ∧ (if b > a then b else a) = b) ∨ ((if b > a then b else a) = a ∧ (if b < a then b else a) = b) := by split <;> split <;> first | omega | simp
          generalize (if b < a then b else a) = mn at *
          generalize (if b > a then b else a) = mx at *
          refine s_join (l := [("graph", .ref g), ("rows", .ref ra), ("count", .int count), ("joins", .int jn)]) (gc := gc1) (cs := (I, io) :: cs) (by assumption) (by walk_at "my_mono") G (by omega) hmn hmx hne P.hin P.hsym P.hirr hnm (fun x hx => by have := P.mlen hx; omega) ?_
          intro gc2 nk2 s4 G2 hadj S4
          have P2 := P.join hmn hmx hne hnm hadj fun x hx => G2.nodupN hx
          walk_at "my_go"
          refine LoopEnd.next (c := gc2 ++ cs) (l := [("graph", .ref g), ("rows", .ref ra), ("count", .int count), ("joins", .int (jn + 1))]) (by walk_at "my_mono") ⟨gc2, _, nk2, _, jn + 1, G2, P2, ?_, rfl, rfl⟩
          rw [List.take_add_one, hr]
          refine hrun.snoc (.inl ⟨by assumption, ?_, mn, mx, ?_, rfl, hadj, rfl, P2.nn⟩)
          · dsimp only; rw [hA, hB]; exact ⟨hab, hnab, B, hBn, hBm, hlt⟩
          · dsimp only; rw [hA, hB]; exact hor.imp (fun h => h) fun h => ⟨h.1, h.2⟩
        · refine LoopEnd.next (c := gc1 ++ cs) (l := [("graph", .ref g), ("rows", .ref ra), ("count", .int count), ("joins", .int jn)]) (by walk_at "my_mono") ⟨gc1, V1, nk1, mk1, jn, G, P, ?_, rfl, rfl⟩
          rw [List.take_add_one, hr]
          refine hrun.snoc (.inr ⟨fun h => ?_, rfl⟩)
          have hlt : ¬ heavyCount nk1 a b count B < count := by assumption
          obtain ⟨B2, e1, e2, e3⟩ := h.2.2.2
          dsimp only at e2 e3
          rw [hA, hB] at e2 e3
          exact hlt (by rw [heavyCount_perm hBn e1 fun x => (hBm x).trans (e2 x).symm]; exact e3)
      · have hab : a = b := by assumption
        refine LoopEnd.next (c := gc1 ++ cs) (l := [("graph", .ref g), ("rows", .ref ra), ("count", .int count), ("joins", .int jn)]) (by walk_at "my_mono") ⟨gc1, V1, nk1, mk1, jn, G, P, ?_, rfl, rfl⟩
        rw [List.take_add_one, hr]
        refine hrun.snoc (.inr ⟨fun h => ?_, rfl⟩)
        have := h.2.1
        dsimp only at this
        rw [hA, hB] at this
        exact this hab
    · have hk : (r.kind == "copy") = false := by assumption
      refine LoopEnd.next (c := gc1 ++ cs) (l := [("graph", .ref g), ("rows", .ref ra), ("count", .int count), ("joins", .int jn)]) (by walk_at "my_mono") ⟨gc1, V1, nk1, mk1, jn, G, P, ?_, rfl, rfl⟩
      rw [List.take_add_one, hr]
      exact hrun.snoc (.inr ⟨fun h => absurd h.1 (by rw [hk]; decide), rfl⟩)
  · rintro l c s' ⟨gc1, V1, nk1, mk1, jn, G, P, hrun, rfl, rfl⟩ S'
    rw [List.length_map, hal, List.take_length] at hrun
    walk_at "my_go"
    refine RetK.intro (by assumption) fun s' S' => ?_
    exact h gc1 V1 nk1 mk1 _ _ _ G P hrun S'
end
section
variable {w : World} {A : Around} {z s : Shared} {h₀ : Heap} {L : Addr} {l : List (Str × AV)} {cs : List (Addr × Obj)} {n : Nat}
theorem s_interference {rows : List Row} {ra : Addr} {ro : Obj} {Q : Value → Shared → Prop} (C : Cx w A h₀ L (n + 6)) (S : St z h₀ L l cs s)
    (hR : RowsAt cs ra ro rows) (hlen : rows.length < 64) (hwf : ∀ (i : Nat) (r : Row), rows[i]? = some r → ∀ v ∈ uses r, (getK (spansN rows i) v).isSome = true)
    (h : ∀ gc g dx nr mr V na nk ma mk s', GA w gc g dx nr mr V na nk V ma mk → V.Perm ((spansP rows).map (·.1)) → (∀ u ∈ V, ∀ y, y ∈ nk u ↔ y ∈ V ∧ u ≠ y ∧ ovl (spansP rows) u y = true) → (∀ u ∈ V, mk u = [u]) →
      St z h₀ L l (gc ++ cs) s' → Q (.ref g) s') : WP w A (call (.ref 159) [.ref ra] []) Q s := by
  refine' r_call [("rows", .ref ra)] C S ?ho ?hcd ?hbi ?hl ?hbs ?hnd ?_ ?hc ?h1 ?h2 ?h3
  walk_at "my_enter"
  clear C S
  walk_at "my_go"
  refine s_spans (by assumption) (by assumption) hR (by omega) hwf ?_
  intro f fo tc s1 hL S1
  obtain ⟨des, hdes, hkeys, hget⟩ := hL
  have hdl : des.length < 64 := by
    have e1 := congrArg List.length hkeys
    simp only [List.length_map] at e1
    have := spansN_length rows hwf rows.length
    unfold spansP at e1
    omega
  walk_at "my_go"
  rename_i D o' V s2 hV hperm hpw S2 s3 S3
  refine s_graph (by assumption) (by assumption) ?_
  intro g dx o a oa b ob s4 hg2 hoa hob S4
  have hperm2 : V.Perm ((spansP rows).map (·.1)) := by rw [← hkeys]; exact hperm
  have hVl : V.length < 64 := by rw [hperm.length_eq, List.length_map]; omega
  have hVn : V.Nodup := hperm.nodup_iff.mpr hdes.nodup
  have G0 : GA w [(b, ob), (a, oa), (g, instObj 148 dx), (dx, o)] g dx a b [] (fun _ => 0) (fun _ => []) [] (fun _ => 0) (fun _ => []) := by
    refine GA.init hg2 hoa hob ?_ _ _ _ _
    have nd := S4.nd
    simp only [List.map_cons] at nd
    exact (List.nodup_append.mp (show ([b, a, g, dx] ++ ((D, o') :: (tc ++ (f, fo) :: cs)).map (·.1)).Nodup from nd)).1
  have S5 : St z _ _ _ ([(b, ob), (a, oa), (g, instObj 148 dx), (dx, o)] ++ ((D, o') :: (tc ++ (f, fo) :: cs))) s4 := S4
  generalize [(b, ob), (a, oa), (g, instObj 148 dx), (dx, o)] = gc0 at G0 S5
  clear S4 S3 S2 S1 hg2 hoa hob
  obtain ⟨rest, hrest⟩ : ∃ r, r = (D, o') :: (tc ++ (f, fo) :: cs) := ⟨_, rfl⟩
  rw [← hrest] at S5
  have hD : (D, o') ∈ rest := by rw [hrest]; exact .head _
  have hf : (f, fo) ∈ rest := by rw [hrest]; exact .tail _ (List.mem_append_right _ (.head _))
  have htc : ∀ p ∈ tc, p ∈ rest := fun p hp => by rw [hrest]; exact .tail _ (List.mem_append_left _ hp)
  walk_at "my_go"
  rename_i s5 S6
  clear S5
  refine r_iter_list (by assumption) S6 hV (fun j l c => ∃ gc na nk ma mk, GA w gc g dx a b (V.take j) na nk (V.take j) ma mk ∧ (∀ u ∈ V.take j, nk u = []) ∧ (∀ u ∈ V.take j, mk u = [u]) ∧ l = ([("rows", .ref ra), ("lives", .ref f), ("names", .ref D), ("graph", .ref g)] : List (Str × AV)) ∧ c = gc ++ rest) ⟨gc0, _, _, _, _, G0, by simp, by simp, rfl, rfl⟩ ?_ ?_ ?_
  · rintro j l c ⟨gc, _, _, _, _, _, _, _, rfl, rfl⟩; exact List.mem_append_right _ hD
  · clear S6 G0
    rintro j v av l c io I s1 hj hv ⟨gc, na, nk, ma, mk, G, hnk, hmk, rfl, rfl⟩ S1
    rw [List.getElem?_map, Option.map_eq_some_iff] at hj
    obtain ⟨x, hj, rfl⟩ := hj
    obtain ⟨tx, rfl⟩ := hv
    have hfr := take_fresh hVn hj
    have htl : (V.take j).length < 1000 := by rw [List.length_take]; omega
    obtain ⟨og, ho1, ho2⟩ := G.hdx
    have hg := G.hg
    walk_at "my_go"
    refine s_add (l := [("rows", .ref ra), ("lives", .ref f), ("names", .ref D), ("graph", .ref g)]) (gc := gc) (cs := (I, io) :: rest) (by assumption) (by walk_at "my_mono") G hfr hfr htl htl ?_
    intro gc2 na2 ma2 s2 G2 S2
    walk_at "my_go"
    have e : V.take (j + 1) = V.take j ++ [x] := by rw [List.take_add_one, hj]; rfl
    refine LoopEnd.next (c := gc2 ++ rest) (l := [("rows", .ref ra), ("lives", .ref f), ("names", .ref D), ("graph", .ref g)]) (by walk_at "my_mono") ⟨gc2, na2, _, ma2, _, by rw [e]; exact G2, fun u hu => ?_, fun u hu => ?_, rfl, rfl⟩
    · rw [e] at hu
      show (if u = x then _ else _) = _
      split
      · rfl
      · rename_i hne; exact hnk u ((List.mem_append.mp hu).resolve_right fun h => hne (by simpa using h))
    · rw [e] at hu
      show (if u = x then _ else _) = _
      split
      · rename_i he; rw [he]
      · rename_i hne; exact hmk u ((List.mem_append.mp hu).resolve_right fun h => hne (by simpa using h))
  · clear S6 G0
    rintro l c s6 ⟨gc, na, nk, ma, mk, G, hnk, hmk, rfl, rfl⟩ S6
    rw [List.length_map, List.take_length] at G hnk hmk
    walk_at "my_go"
    refine r_iter_list (l := [("rows", .ref ra), ("lives", .ref f), ("names", .ref D), ("graph", .ref g)]) (by assumption) (by walk_at "my_mono") hV (fun i l c => ∃ gc nk, GA w gc g dx a b V na nk V ma mk ∧ (∀ u ∈ V, ∀ y, y ∈ nk u ↔ Edge (spansP rows) V (V.take i) [] 0 u y) ∧ l = ([("rows", .ref ra), ("lives", .ref f), ("names", .ref D), ("graph", .ref g)] : List (Str × AV)) ∧ c = gc ++ rest) ⟨gc, nk, G, fun u hu y => by rw [hnk u hu]; simp [Edge.none], rfl, rfl⟩ ?_ ?_ ?_
    · rintro j l c ⟨gc, _, _, _, rfl, rfl⟩; exact List.mem_append_right _ hD
    · clear S6 G hnk
      rintro i v av l c io I s1 hi hv ⟨gc, nk, G, hnk, rfl, rfl⟩ S1
      rw [List.getElem?_map, Option.map_eq_some_iff] at hi
      obtain ⟨v, hi, rfl⟩ := hi
      obtain ⟨tx, rfl⟩ := hv
      have hvV : v ∈ V := List.mem_of_getElem? hi
      walk_at "my_go"
      refine r_iter_list (l := [("rows", .ref ra), ("lives", .ref f), ("names", .ref D), ("graph", .ref g), ("v", .int v)]) (cs := (I, io) :: (gc ++ rest)) (by assumption) (by walk_at "my_mono") hV (fun j l c => ∃ gc nk, GA w gc g dx a b V na nk V ma mk ∧ (∀ u ∈ V, ∀ y, y ∈ nk u ↔ Edge (spansP rows) V (V.take i) (V.take j) v u y) ∧ l = ([("rows", .ref ra), ("lives", .ref f), ("names", .ref D), ("graph", .ref g), ("v", .int v)] : List (Str × AV)) ∧ c = (I, io) :: (gc ++ rest)) ⟨gc, nk, G, fun u hu y => by rw [hnk u hu, List.take_zero]; exact Edge.zero, rfl, rfl⟩ ?_ ?_ ?_
      · rintro j l c ⟨gc, _, _, _, rfl, rfl⟩; exact .tail _ (List.mem_append_right _ hD)
      · clear S1 G hnk
        rintro j q av l c io2 I2 s1 hj hv ⟨gc, nk, G, hnk, rfl, rfl⟩ S1
        rw [List.getElem?_map, Option.map_eq_some_iff] at hj
        obtain ⟨q, hj, rfl⟩ := hj
        obtain ⟨tx, rfl⟩ := hv
        have hqV : q ∈ V := List.mem_of_getElem? hj
        have hsp : ∀ x ∈ V, ∃ a o, getK des x = some (.ref a) ∧ (a, o) ∈ rest ∧ TI o [.int (lifeOf (spansP rows) x).1, .int (lifeOf (spansP rows) x).2] := fun x hx => by
          have h1 := (mem_keys _ _).mp (hperm2.mem_iff.mp hx)
          obtain ⟨⟨s, e⟩, hse⟩ := Option.isSome_iff_exists.mp h1
          obtain ⟨a, o, a1, a2, a3⟩ := hget x s e hse
          have e2 : lifeOf (spansP rows) x = (s, e) := by unfold lifeOf; rw [hse]; rfl
          exact ⟨a, o, a1, htc _ a2, by rw [e2]; exact a3⟩
        obtain ⟨av, ov, hv1, hv2, hv3⟩ := hsp v hvV
        obtain ⟨aq, oq, hq1, hq2, hq3⟩ := hsp q hqV
        walk_at "my_go"
        · refine s_overlap (by assumption) (by assumption) (by walk_at "my_mem") (by walk_at "my_mem") hv3 hq3 ?_
          intro s2 S2
          have gnd : (gc.map (·.1)).Nodup := (show St z _ _ _ (gc ++ rest) s2 from S2.mono (fun _ h => h) S2.nl (by walk_at "my_sub") (by walk_at "my_cnt")).nd_left
          obtain ⟨og, ho1, ho2⟩ := G.hdx
          obtain ⟨onr, hn1, hn2⟩ := G.hnr
          obtain ⟨oov, hov1, hov2⟩ := G.hn v hvV
          have hg := G.hg
          have hgetv := getK_kf (f := fun v => AV.ref (na v)) hvV
          have hgetq := getK_kf (f := fun v => AV.ref (na v)) hqV
          have hnl : ∀ x ∈ V, (nk x).length < 64 := fun x hx => Nat.lt_of_le_of_lt (length_le_of_subset (G.nodupN hx) (fun y hy => ((hnk x hx y).mp hy).1)) hVl
          have hl1 : (kt (nk v)).length < 100000 := by rw [length_kf]; have := hnl v hvV; omega
          walk_at "my_go"
          · rename_i hov s9 S9 t9 s10 S10 t10 o3 s3 hd3 S3
            have hlt : v < q := by assumption
            have hov' : ovl (spansP rows) v q = true := hov
            rw [setK_kt] at hd3
            have G3 := G.updN hvV hd3
            have gnd3 : ((upd gc (na v) o3).map (·.1)).Nodup := by rw [keys_upd]; exact gnd
            generalize upd gc (na v) o3 = gc3 at S3 G3 gnd3
            clear ho1 ho2 hn1 hn2 hov1 hov2 hg gnd S2 hl1
            obtain ⟨og, ho1, ho2⟩ := G3.hdx
            obtain ⟨onr, hn1, hn2⟩ := G3.hnr
            obtain ⟨oov, hov1, hov2⟩ := G3.hn q hqV
            have hg := G3.hg
            have hqv : ¬ q = v := by omega
            have hov3 : DI w oov (kt (nk q)) := by simpa only [hqv, if_false] using hov2
            have hl1 : (kt (nk q)).length < 100000 := by rw [length_kf]; have := hnl q hqV; omega
            walk_at "my_go"
            rename_i o4 s4 hd4 S4
            rw [setK_kt] at hd4
            have hd4' : DI w o4 (kt (addS ((fun x => if x = v then addS (nk v) q else nk x) q) v)) := by
              show DI w o4 (kt (addS (if q = v then addS (nk v) q else nk q) v))
              rw [if_neg hqv]; exact hd4
            have G4 := G3.updN hqV hd4'
            refine LoopEnd.next (c := (I, io) :: (upd gc3 (na q) o4 ++ rest)) (l := [("rows", .ref ra), ("lives", .ref f), ("names", .ref D), ("graph", .ref g), ("v", .int v)]) (by walk_at "my_mono") ⟨_, _, G4, fun u hu y => ?_, rfl, rfl⟩
            exact Edge.take (fun x => mem_take_succ' hj) hvV hqV hlt hov' (hnk u hu)
          · have hov : ovl (spansP rows) v q = false := by assumption
            refine LoopEnd.next (c := (I, io) :: (gc ++ rest)) (l := [("rows", .ref ra), ("lives", .ref f), ("names", .ref D), ("graph", .ref g), ("v", .int v)]) (by walk_at "my_mono") ⟨gc, nk, G, fun u hu y => (hnk u hu y).trans (Edge.skip (fun x => mem_take_succ' hj) fun h => by rw [hov] at h; cases h.2), rfl, rfl⟩
        · refine LoopEnd.next (c := (I, io) :: (gc ++ rest)) (l := [("rows", .ref ra), ("lives", .ref f), ("names", .ref D), ("graph", .ref g), ("v", .int v)]) (by walk_at "my_mono") ⟨gc, nk, G, fun u hu y => (hnk u hu y).trans (Edge.skip (fun x => mem_take_succ' hj) fun h => absurd h.1 (by assumption)), rfl, rfl⟩
      · clear S1 G hnk
        rintro l c s1 ⟨gc, nk, G, hnk, rfl, rfl⟩ S1
        rw [List.length_map, List.take_length] at hnk
        walk_at "my_go"
        exact LoopEnd.next (c := gc ++ rest) (l := [("rows", .ref ra), ("lives", .ref f), ("names", .ref D), ("graph", .ref g)]) (by walk_at "my_mono") ⟨gc, nk, G, fun u hu y => (hnk u hu y).trans (Edge.next (fun x => mem_take_succ' hi) hu), rfl, rfl⟩
    · clear S6 G hnk
      rintro l c s6 ⟨gc, nk, G, hnk, rfl, rfl⟩ S6
      rw [List.length_map, List.take_length] at hnk
      subst hrest
      walk_at "my_go"
      refine RetK.intro (l' := [("rows", .ref ra), ("lives", .ref f), ("names", .ref D), ("graph", .ref g)]) (cs' := gc ++ cs) (by walk_at "my_mono") fun s' S' => ?_
      exact h gc g dx a b V na nk ma mk _ G hperm2 (fun u hu y => (hnk u hu y).trans (Edge.all hu)) hmk S'
end
section
variable {w : World} {A : Around} {z s : Shared} {h₀ : Heap} {L : Addr} {l : List (Str × AV)} {cs : List (Addr × Obj)} {n : Nat}
theorem s_in_order {d f : Addr} {od fo : Obj} {ns : List Int} {des : List (Int × AV)} {Q : Value → Shared → Prop} (C : Cx w A h₀ L (n + 6)) (S : St z h₀ L l cs s)
    (hm : (d, od) ∈ cs) (hd' : LI od (ns.map .int)) (hf : (f, fo) ∈ cs) (hdes : DI w fo des) (hlen : ns.length < 64) (hget : ∀ v ∈ ns, ∃ b o x y, getK des v = some (.ref b) ∧ (b, o) ∈ cs ∧ TI o [.int x, .int y])
    (h : ∀ (D : Addr) (o' : Obj) (ns' : List Int) s', LI o' (ns'.map .int) → ns'.Perm ns → St z h₀ L l ((D, o') :: cs) s' → Q (.ref D) s') : WP w A (call (.ref 103) [.ref d, .ref f] []) Q s := by
  refine' r_callC (x := "names") (c := "lives") C S ?ho ?hcd ?hbi ?hv ?hx ?hc ?hcells ?hl ?hb ?_ ?hco ?hgen ?hk
  case ho => k_is
  case hcd => k_is
  case hbi => with_unfolding_all rfl
  case hv => exact is_ref
  case hx => rfl
  case hc => rfl
  case hcells => intro n; rfl
  case hl => intro _ _ _; rfl
  case hb => intro _ _ _; rfl
  case hco => rfl
  case hgen => rfl
  case hk => rfl
  intro g' L' A' s1 co C' hco S'
  clear C S
  walk_at "my_go"
  obtain ⟨m, F, hl⟩ := S'.fr
  refine LCp.ListComp_P F (by with_unfolding_all rfl) (by decide) (by rfl) (by decide) (by rfl) (by rfl) (by decide) ?_
  walk_at "my_go"
  refine LCg.ListComp_U F (by with_unfolding_all rfl) (by decide) (by rfl) (by decide) (by rfl) ?_
  walk_at "my_go"
  obtain ⟨vs, ep, rfl, hvs⟩ := hd'
  have hvl : vs.length = ns.length := by have := hvs.length; simpa using this
  refine LCg.CompSrc.ledger C'.handled F S'.news (.tail _ hm) (by rw [List.size_toArray, sizeLine_eq]; omega) fun g2 => ?_
  refine lc_inner (base := (L' + 1, co) :: cs) (c := L' + 1) (co := co) (f := f) (fo := fo) (ns := ns) (des := des) (fun _ => rfl) (fun _ => rfl) (fun _ => rfl) rfl hco (.tail _ hm) (.tail _ hf) (.head _) hvs.ints hdes (fun v hv => by obtain ⟨b, _, _, _, h1, _⟩ := hget v hv; exact ⟨b, h1⟩) _ (fun as news hP hb hnd hlow => ?_) vs.toArray.size 0 [] _ _ (by simpa using hvl) ⟨by simp, by simp⟩ (fun _ h => h) S'.nd S'.low
  intro D1 h1 tk1 F1 N1 off1
  have S1 : St z g' L' [("names", .ref d)] ((D1, listOf (List.toArray (as.map Value.ref)) (as.map Value.ref).length) :: news) { s1 with heap := h1, toks := tk1 } :=
    ⟨S'.gens, S'.os, ⟨m, F1, hl⟩, S'.nl, N1, nodup_cons_off hnd (off1_mem off1), low_cons (fun _ _ e => nomatch e) hlow⟩
  obtain ⟨num, hns, hnum⟩ := pairs_num hP hnd
  have hal : as.length = ns.length := hP.1
  refine spliced_none ?_
  refine r_sorted_lives (as := as) C' S1 F1 hl (.head _) ⟨_, _, rfl, AVs.of_refs as⟩ (by omega) (fun a ha => ?_) ?_
  · obtain ⟨o, b, a1, a2, a3⟩ := hnum a ha
    obtain ⟨b', lo, x, y, e1, e2, e3⟩ := hget (num a) (by rw [hns]; exact List.mem_map_of_mem ha)
    rw [a3] at e1; cases e1
    exact ⟨o, b, lo, num a, x, y, .tail _ a1, a2, .tail _ (hb _ (.tail _ e2)), e3⟩
  intro D2 o2 bs s2 ho2 hperm F2 S2
  obtain ⟨vs2, ep2, rfl, hv2⟩ := ho2
  obtain rfl := AVs.refs hv2
  have hbl := hperm.length_eq
  refine LCp.SrcLP.ledger C'.handled F2 S2.news (.head _) (by rw [List.size_toArray, List.length_map, sizeLine_eq]; omega) fun g3 => ?_
  refine lc_outer (num := num) (bs := bs) (fun _ => rfl) (fun _ => rfl) (.head _) (fun a ha => ?_) _ (fun ys hys => ?_) _ 0 [] _ (by simp) .nil
  · obtain ⟨o, b, a1, a2, _⟩ := hnum a (hperm.mem_iff.mp ha)
    exact ⟨o, b, .tail _ (.tail _ a1), a2⟩
  intro D3 h3 tk3 F3 N3 off3
  have S3 : St z g' L' [("names", .ref d)] ((D3, listOf (List.toArray ys) ys.length) :: (D2, listOf (List.toArray (bs.map Value.ref)) ep2) :: (D1, listOf (List.toArray (as.map Value.ref)) (as.map Value.ref).length) :: news) { s2 with heap := h3, toks := tk3 } :=
    ⟨S2.gens, S2.os, ⟨m, F3, hl⟩, S2.nl, N3, nodup_cons_off S2.nd (off1_mem off3), low_cons (fun _ _ e => nomatch e) S2.low⟩
  have hcs : ∀ p ∈ cs, p ∈ news := fun p hp => hb p (.tail _ hp)
  have nd' := S'.nd
  rw [List.map_cons, List.nodup_cons] at nd'
  walk_at "my_go"
  refine RetK.intro (l' := []) (cs' := (D3, listOf (List.toArray ys) ys.length) :: cs) (S3.sub (by simp) (by simp) (fun p hp => ?_) (nodup_cons_off nd'.2 fun p hp => off1_mem off3 p (.tail _ (.tail _ (hcs p hp))))) fun s' S4 => ?_
  · rcases List.mem_cons.mp hp with rfl | hp
    · exact .head _
    · exact .tail _ (.tail _ (.tail _ (hcs p hp)))
  refine h D3 _ (bs.map num) s' ⟨ys, _, rfl, AVs.of_ints hys⟩ ?_ S4
  rw [hns]; exact hperm.map num
end
section
variable {w : World} {A : Around} {z s : Shared} {h₀ : Heap} {L : Addr} {l : List (Str × AV)} {cs : List (Addr × Obj)} {n : Nat}
theorem s_slots {x dx ra sa d f : Addr} {o so od fo : Obj} {sp : List Int} {des : List (Int × AV)} {lf : Int → Int × Int} {Q : Value → Shared → Prop} (C : Cx w A h₀ L (n + 8)) (S : St z h₀ L l ((sa, so) :: cs) s)
    (hx : (x, instObj 87 dx) ∈ cs) (hdx : (dx, o) ∈ cs) (hg2 : G2 "registers" "slots" o ra sa) (hso : DI w so []) (hm : (d, od) ∈ cs) (hd : LI od (sp.map .int)) (hf : (f, fo) ∈ cs) (hdes : DI w fo des)
    (hlen : sp.length < 64) (hnd : sp.Nodup) (hget : ∀ v ∈ sp, ∃ a o, getK des v = some (.ref a) ∧ (a, o) ∈ cs ∧ TI o [.int (lf v).1, .int (lf v).2])
    (h : ∀ so' K (sl : Int → Int) s', DI w so' (kf K fun v => .int (sl v)) → K.Perm sp → (∀ v ∈ K, 0 ≤ sl v) → (∀ u ∈ K, ∀ v ∈ K, u ≠ v → ovf lf u v = true → sl u ≠ sl v) → St z h₀ L l ((sa, so') :: cs) s' → Q .none s') : WP w A (call (.ref 110) [.ref x, .ref f, .ref d] []) Q s := by
  refine' r_call [("assignment", .ref x), ("lives", .ref f), ("spilled", .ref d)] C S ?ho ?hcd ?hbi ?hl ?hbs ?hnd ?_ ?hc ?h1 ?h2 ?h3
  walk_at "my_enter"
  clear C S
  walk_at "my_go"
  refine s_in_order (by assumption) (by assumption) (by walk_at "my_mem") hd (by walk_at "my_mem") hdes hlen (fun v hv => ?_) ?_
  · obtain ⟨a, o, h1, h2, h3⟩ := hget v hv
    exact ⟨a, o, _, _, h1, .tail _ h2, h3⟩
  intro D o' ns s1 hns hperm S1
  have hnn : ns.Nodup := hperm.nodup_iff.mpr hnd
  have hnl := hperm.length_eq
  refine r_iter_list (cs := (D, o') :: (sa, so) :: cs) (by assumption) S1 hns (fun j l c => ∃ (so : Obj) (sl : Int → Int), DI w so (kf (ns.take j) fun v => .int (sl v)) ∧ (∀ v ∈ ns.take j, 0 ≤ sl v) ∧ (∀ u ∈ ns.take j, ∀ v ∈ ns.take j, u ≠ v → ovf lf u v = true → sl u ≠ sl v) ∧ l = ([("assignment", .ref x), ("lives", .ref f), ("spilled", .ref d)] : List (Str × AV)) ∧ c = (D, o') :: (sa, so) :: cs) ⟨so, fun _ => 0, by simpa [kf] using hso, by simp, by simp, rfl, rfl⟩ ?_ ?_ ?_
  · rintro j l c ⟨so, sl, _, _, _, rfl, rfl⟩; exact .head _
  · clear S1 hso
    rintro j v av l c io I s1 hj hv ⟨so, sl, hso, hs0, hsl, rfl, rfl⟩ S1
    rw [List.getElem?_map, Option.map_eq_some_iff] at hj
    obtain ⟨v, hj, rfl⟩ := hj
    obtain ⟨tx, rfl⟩ := hv
    have hvs : v ∈ sp := hperm.mem_iff.mp (List.mem_of_getElem? hj)
    have hfr := take_fresh hnn hj
    obtain ⟨a1, o1, hv1, hv2, hv3⟩ := hget v hvs
    walk_at "my_go"
    rename_i tk ot s2 hot S2 s3 S3 s4 S4
    refine r_iter_dict (l := [("assignment", .ref x), ("lives", .ref f), ("spilled", .ref d), ("v", .int v), ("taken", .ref tk)]) (cs := (tk, ot) :: (I, io) :: (D, o') :: (sa, so) :: cs) (by assumption) (by walk_at "my_mono") hso
      (fun q l c => ∃ (ot : Obj) (tks : List Int), LI ot (tks.map .int) ∧ tks.length ≤ q ∧ (∀ u ∈ (ns.take j).take q, ovf lf v u = true → sl u ∈ tks) ∧ l = ([("assignment", .ref x), ("lives", .ref f), ("spilled", .ref d), ("v", .int v), ("taken", .ref tk)] : List (Str × AV)) ∧ c = (tk, ot) :: (I, io) :: (D, o') :: (sa, so) :: cs) ⟨ot, [], hot, by simp, by simp, rfl, rfl⟩ ?_ ?_ ?_
    · rintro j l c ⟨oc, tks, _, _, _, rfl, rfl⟩; exact .tail _ (.tail _ (.tail _ (.head _)))
    · clear S1 S2 S3 S4 hot
      rintro q u tu l c io2 I2 s1 hq ⟨ot, tks, hot, htl, htc, rfl, rfl⟩ S1
      rw [keys_kf] at hq
      have hu : u ∈ ns.take j := List.mem_of_getElem? hq
      obtain ⟨a2, o2, hu1, hu2, hu3⟩ := hget u (hperm.mem_iff.mp (List.mem_of_mem_take hu))
      have hgu := getK_kf (f := fun v => AV.int (sl v)) hu
      have htl2 : tks.length < 100000 := by have := lt_of_get hq; rw [List.length_take] at this; omega
      walk_at "my_go"
      refine s_overlap (by assumption) (by assumption) (by walk_at "my_mem") (by walk_at "my_mem") hv3 hu3 ?_
      intro s2 S2
      walk_at "my_go"
      · rename_i ot2 s4 hot2 S4
        refine LoopEnd.next (c := (tk, ot2) :: (I, io) :: (D, o') :: (sa, so) :: cs) (l := [("assignment", .ref x), ("lives", .ref f), ("spilled", .ref d), ("v", .int v), ("taken", .ref tk)]) (by walk_at "my_mono") ⟨ot2, tks ++ [sl u], by rw [List.map_append]; exact hot2, by simp; omega, fun y hy hyo => ?_, rfl, rfl⟩
        rcases mem_take_succ hq hy with hy | rfl
        · exact List.mem_append_left _ (htc y hy hyo)
        · simp
      · have hno : ovf lf v u = false := by assumption
        refine LoopEnd.next (c := (tk, ot) :: (I, io) :: (D, o') :: (sa, so) :: cs) (l := [("assignment", .ref x), ("lives", .ref f), ("spilled", .ref d), ("v", .int v), ("taken", .ref tk)]) (by walk_at "my_mono") ⟨ot, tks, hot, by omega, fun y hy hyo => ?_, rfl, rfl⟩
        rcases mem_take_succ hq hy with hy | rfl
        · exact htc y hy hyo
        · rw [hno] at hyo; cases hyo
    · clear S1 S2 S3 S4 hot
      rintro l c s1 ⟨ot, tks, hot, htl, htc, rfl, rfl⟩ S1
      rw [length_kf, List.take_length] at htc
      have hKl2 : (kf (ns.take j) fun v => AV.int (sl v)).length < 100000 := by rw [length_kf, List.length_take]; omega
      walk_at "my_go"
      refine s_lowest (by assumption) (by assumption) (by walk_at "my_mem") hot ?_
      intro m tm s2 hm0 hm1 hm2 S2
      walk_at "my_go"
      rename_i so2 s3 hso2 S3
      have e2 : setK (kf (ns.take j) fun v => AV.int (sl v)) v (.int m) = kf (ns.take j ++ [v]) fun u => .int (if u = v then m else sl u) := by
        have := setK_kf_new (f := fun v => AV.int (sl v)) (g := fun u => AV.int (if u = v then m else sl u)) hfr (fun u hu => by have : u ≠ v := fun e => hfr (e ▸ hu); simp [this])
        simpa using this
      rw [e2] at hso2
      have e3 : ns.take (j + 1) = ns.take j ++ [v] := by rw [List.take_add_one, hj]; rfl
      have hne : ∀ u ∈ ns.take j, u ≠ v := fun u hu e => hfr (e ▸ hu)
      have split : ∀ u ∈ ns.take (j + 1), u = v ∨ (u ∈ ns.take j ∧ u ≠ v) := fun u hu => by
        rcases mem_take_succ hj hu with hu | hu
        · exact .inr ⟨hu, hne u hu⟩
        · exact .inl hu
      refine LoopEnd.next (c := (D, o') :: (sa, so2) :: cs) (l := [("assignment", .ref x), ("lives", .ref f), ("spilled", .ref d)]) (by walk_at "my_mono") ⟨so2, fun u => if u = v then m else sl u, by rw [e3]; exact hso2, fun u hu => ?_, fun u hu y hy huy hov => ?_, rfl, rfl⟩
      · rcases split u hu with rfl | ⟨hu, e⟩
        · simp [hm0]
        · simp only [e, if_false]; exact hs0 u hu
      · rcases split u hu with rfl | ⟨hu2, e⟩ <;> rcases split y hy with rfl | ⟨hy2, e'⟩
        · exact absurd rfl huy
        · simp only [e', if_true, if_false]
          exact fun e5 => hm1 (e5 ▸ htc y hy2 hov)
        · simp only [e, if_true, if_false]
          exact fun e5 => hm1 (e5 ▸ htc u hu2 (by unfold ovf at hov ⊢; rw [Bool.and_comm]; exact hov))
        · simp only [e, e', if_false]; exact hsl u hu2 y hy2 huy hov
  · clear S1 hso
    rintro l c s1 ⟨so, sl, hso, hs0, hsl, rfl, rfl⟩ S1
    rw [List.length_map, List.take_length] at hso hs0 hsl
    walk_at "my_go"
    refine RetK.intro (l' := [("assignment", .ref x), ("lives", .ref f), ("spilled", .ref d)]) (cs' := (sa, so) :: cs) (by walk_at "my_mono") fun s' S' => ?_
    exact h so ns sl _ hso hperm hs0 hsl S'
end
section
variable (w : World) (mk : Int → List Int) (col : Int → Int) (K ns : List Int) (ra g cl x sp D sa ga dx a : Addr) (count : Int) (o' so0 o oc oa : Obj) (gcs : List (Addr × Obj))
inductive RegJ1 (i : Nat) : List (Str × AV) → List (Addr × Obj) → Prop
  | mk (spo go : Obj) (KR KS : List Int) (reg : Int → Int) (h1 : LI spo (KS.map .int)) (h2 : DI w go (kf KR fun v => .int (reg v))) (h3 : (KR ++ KS).Perm ((ns.take i).flatMap mk)) (h4 : ∀ u ∈ ns.take i, ∀ v ∈ mk u, (u ∈ K → v ∈ KR ∧ reg v = col u) ∧ (u ∉ K → v ∈ KS)) :
      RegJ1 i [("rows", .ref ra), ("count", .int count), ("graph", .ref g), ("colours", .ref cl), ("assignment", .ref x), ("spilled", .ref sp)] ((D, o') :: (sp, spo) :: (sa, so0) :: (ga, go) :: (x, instObj 87 dx) :: (dx, o) :: (cl, oc) :: (a, oa) :: gcs)
inductive RegJ2 (i : Nat) (u : Int) (I : Addr) (io : Obj) (j : Nat) : List (Str × AV) → List (Addr × Obj) → Prop
  | mk (spo go : Obj) (KR KS : List Int) (reg : Int → Int) (h1 : LI spo (KS.map .int)) (h2 : DI w go (kf KR fun v => .int (reg v))) (h3 : (KR ++ KS).Perm ((ns.take i).flatMap mk ++ (mk u).take j)) (h4 : ∀ u ∈ ns.take i, ∀ v ∈ mk u, (u ∈ K → v ∈ KR ∧ reg v = col u) ∧ (u ∉ K → v ∈ KS)) (h5 : ∀ v ∈ (mk u).take j, (u ∈ K → v ∈ KR ∧ reg v = col u) ∧ (u ∉ K → v ∈ KS)) :
      RegJ2 i u I io j [("rows", .ref ra), ("count", .int count), ("graph", .ref g), ("colours", .ref cl), ("assignment", .ref x), ("spilled", .ref sp), ("node", .int u)] ((I, io) :: (D, o') :: (sp, spo) :: (sa, so0) :: (ga, go) :: (x, instObj 87 dx) :: (dx, o) :: (cl, oc) :: (a, oa) :: gcs)
end
section
variable {w : World} {A : Around} {z s : Shared} {h₀ : Heap} {L : Addr} {l : List (Str × AV)} {cs : List (Addr × Obj)} {n : Nat}
theorem s_registers {rows : List Row} {ra : Addr} {ro : Obj} {count : Int} {tc : Tok} {Q : Value → Shared → Prop} (C : Cx w A h₀ L (n + 12)) (S : St z h₀ L l cs s)
    (hR : RowsAt cs ra ro rows) (hlen : rows.length < 64) (hwf : ∀ (i : Nat) (r : Row), rows[i]? = some r → ∀ v ∈ uses r, (getK (spansN rows i) v).isSome = true)
    (hcopy : ∀ r ∈ rows, (r.kind == "copy") = true → r.name ∈ (spansP rows).map (·.1) ∧ r.left ∈ (spansP rows).map (·.1)) (hpos : ∀ v ∈ (spansP rows).map (·.1), 0 ≤ v)
    (h : ∀ x dx o ga sa go so KR KS (reg sl : Int → Int) s', G2 "registers" "slots" o ga sa → DI w go (kf KR fun v => .int (reg v)) → DI w so (kf KS fun v => .int (sl v)) → CRes rows count KR KS reg sl →
      St z h₀ L l ((x, instObj 87 dx) :: (dx, o) :: (ga, go) :: (sa, so) :: cs) s' → Q (.ref x) s') : WP w A (call (.ref 201) [.ref ra, .int count tc] []) Q s := by
  refine' r_call [("rows", .ref ra), ("count", .int count)] C S ?ho ?hcd ?hbi ?hl ?hbs ?hnd ?_ ?hc ?h1 ?h2 ?h3
  walk_at "my_enter"
  clear C S
  walk_at "my_go"
  refine s_interference (by assumption) (by assumption) hR hlen hwf ?_
  intro gc g dx1 nr mr V0 na nk0 ma mk0 s1 G0 hV0 hnk0 hmk0 S1
  have P0 := GP.init G0.nodupV hnk0 hmk0 fun u hu => G0.nodupN hu
  have hV0l : V0.length < 64 := by
    have := spansN_length rows hwf rows.length
    have e := hV0.length_eq
    rw [List.length_map] at e
    unfold spansP at e; omega
  walk_at "my_go"
  refine s_coalesce (by assumption) (by assumption) G0 P0 hR hV0l G0.nodupV (fun r hr hk => ?_) ?_
  · obtain ⟨h1, h2⟩ := hcopy r hr hk
    exact ⟨hV0.mem_iff.mpr h1, hV0.mem_iff.mpr h2⟩
  clear S1
  intro gc2 V nk mk jn tj s2 G P hrun S2
  have hVl : V.length < 64 := by have := length_le_of_subset P.vn P.vs; omega
  have hVp : ∀ v ∈ V, 0 ≤ v := fun v hv => hpos v (hV0.mem_iff.mp (P.vs v hv))
  walk_at "my_go"
  have G2' : GA w (gc2 ++ cs) g dx1 nr mr V na nk V ma mk := G.mono fun p hp => List.mem_append_left _ hp
  refine s_simplify (by assumption) (by assumption) G2' P.hin P.hsym P.hirr hVl hVp ?_
  intro a oa ord s3 hoa hord hsimp S3
  walk_at "my_go"
  have G3' : GA w ((a, oa) :: (gc2 ++ cs)) g dx1 nr mr V na nk V ma mk := G2'.mono fun p hp => .tail _ hp
  refine s_colour (a := a) (by assumption) (by assumption) G3' P.hin P.hsym P.hirr hVl (.head _) hoa hord ?_
  intro cl oc K col s4 hoc hKV hcol hall S4
  walk_at "my_go"
  refine s_assignment (by assumption) (by assumption) ?_
  intro x dx o ga go0 sa so0 s5 hg2 hgo hso S5
  obtain ⟨og, ho1, ho2⟩ := G.hdx
  obtain ⟨onm, hn1, hn2⟩ := G.hmr
  have hg := G.hg
  have hl1 : (kf V fun v => AV.ref (ma v)).length < 64 := by rw [length_kf]; omega
  clear S2 S3 S4
  walk_at "my_go"
  rename_i sp spo s6 hspo S6 s7 S7 s8 S8 D o' ns s9 hns hperm hpw S9
  clear S5 S6 S7 S8
  rw [keys_kf] at hperm
  have hnn : ns.Nodup := hperm.nodup_iff.mpr P.vn
  have hflat : (ns.flatMap mk).Perm V0 := (List.Perm.flatMap_right mk hperm).trans P.part
  have hfn : (ns.flatMap mk).Nodup := hflat.nodup_iff.mpr G0.nodupV
  refine r_iter_list (cs := (D, o') :: (sp, spo) :: (sa, so0) :: (ga, go0) :: (x, instObj 87 dx) :: (dx, o) :: (cl, oc) :: (a, oa) :: (gc2 ++ cs)) (by assumption) S9 hns
    (RegJ1 w mk col K ns ra g cl x sp D sa ga dx a count o' so0 o oc oa (gc2 ++ cs)) ⟨spo, go0, [], [], fun _ => 0, hspo, hgo, by simp, by simp⟩ ?_ ?_ ?_
  · rintro j l c ⟨spo, go, KR, KS, reg, _, _, _, _⟩; exact .head _
  · clear S9 hspo hgo
    rintro i av vv l c io I s1 hi hv ⟨spo, go, KR, KS, reg, hspo, hgo, hKK, hprop⟩ S1
    rw [List.getElem?_map, Option.map_eq_some_iff] at hi
    obtain ⟨u, hi, rfl⟩ := hi
    obtain ⟨tu, rfl⟩ := hv
    have huV : u ∈ V := hperm.mem_iff.mp (List.mem_of_getElem? hi)
    obtain ⟨om, hom1, hom2⟩ := G.hm u huV
    have hgm := getK_kf (f := fun v => AV.ref (ma v)) huV
    walk_at "my_go"
    refine r_iter_list (l := [("rows", .ref ra), ("count", .int count), ("graph", .ref g), ("colours", .ref cl), ("assignment", .ref x), ("spilled", .ref sp), ("node", .int u)]) (cs := (I, io) :: (D, o') :: (sp, spo) :: (sa, so0) :: (ga, go) :: (x, instObj 87 dx) :: (dx, o) :: (cl, oc) :: (a, oa) :: (gc2 ++ cs)) (by assumption) (by walk_at "my_mono") hom2
      (RegJ2 w mk col K ns ra g cl x sp D sa ga dx a count o' so0 o oc oa (gc2 ++ cs) i u I io) ⟨spo, go, KR, KS, reg, hspo, hgo, by simpa using hKK, hprop, by simp⟩ ?_ ?_ ?_
    · rintro j l c ⟨spo, go, KR, KS, reg, _, _, _, _, _⟩; exact .tail _ (.tail _ (.tail _ (.tail _ (.tail _ (.tail _ (.tail _ (.tail _ (.tail _ (List.mem_append_left _ hom1)))))))))
    · clear S1 hspo hgo hKK hprop
      rintro j av vv l c io2 I2 s1 hj hv ⟨spo, go, KR, KS, reg, hspo, hgo, hKK, hprop, hprop2⟩ S1
      rw [List.getElem?_map, Option.map_eq_some_iff] at hj
      obtain ⟨v, hj, rfl⟩ := hj
      obtain ⟨tv, rfl⟩ := hv
      have hfr := flat_fresh hfn hi hj
      have hvn : v ∉ KR ++ KS := fun hm => hfr (hKK.mem_iff.mp hm)
      have hKl : (KR ++ KS).length < 64 := by
        have h1 := flat_len (mk := mk) (j := j) hi
        rw [hflat.length_eq] at h1
        rw [hKK.length_eq]; omega
      rw [List.length_append] at hKl
      have hl2 : (kf KR fun v => AV.int (reg v)).length < 100000 := by rw [length_kf]; omega
      have hl3 : KS.length < 100000 := by omega
      have hgetc : (getK (kf K fun v => .int (col v)) u).isSome = true → getK (kf K fun v => .int (col v)) u = some (.int (col u)) := fun hs => getK_kf (f := fun v => AV.int (col v)) (by rw [isSome_kf] at hs; simpa using hs)
      have hd1 : (mk u).take (j + 1) = (mk u).take j ++ [v] := by rw [List.take_add_one, hj]; rfl
      have hne : ∀ y ∈ KR ++ KS, y ≠ v := fun y hy e => hvn (e ▸ hy)
      walk_at "my_go"
      · rename_i go2 s4 hgo2 S4
        have huK : u ∈ K := by
          have hs : (getK (kf K fun v => AV.int (col v)) u).isSome = true := by assumption
          rw [isSome_kf] at hs; simpa using hs
        have e2 : setK (kf KR fun v => AV.int (reg v)) v (.int (col u)) = kf (KR ++ [v]) fun y => .int (if y = v then col u else reg y) := by
          have := setK_kf_new (f := fun v => AV.int (reg v)) (g := fun y => AV.int (if y = v then col u else reg y)) (v := v) (V := KR) (fun hm => hvn (List.mem_append_left _ hm)) (fun y hy => by have := hne y (List.mem_append_left _ hy); simp [this])
          simpa using this
        rw [e2] at hgo2
        refine LoopEnd.next (c := (I, io) :: (D, o') :: (sp, spo) :: (sa, so0) :: (ga, go2) :: (x, instObj 87 dx) :: (dx, o) :: (cl, oc) :: (a, oa) :: (gc2 ++ cs)) (l := [("rows", .ref ra), ("count", .int count), ("graph", .ref g), ("colours", .ref cl), ("assignment", .ref x), ("spilled", .ref sp), ("node", .int u)]) (by walk_at "my_mono") ⟨spo, go2, KR ++ [v], KS, fun y => if y = v then col u else reg y, hspo, hgo2, ?_, fun u' hu' v' hv' => ?_, fun v' hv' => ?_⟩
        · rw [hd1, ← List.append_assoc]
          refine List.Perm.trans ?_ (List.Perm.append_right [v] hKK)
          rw [List.append_assoc, List.append_assoc]
          exact List.Perm.append_left KR List.perm_append_comm
        · have hx1 := hprop u' hu' v' hv'
          have hin : v' ∈ KR ++ KS := by
            by_cases e : u' ∈ K
            · exact List.mem_append_left _ (hx1.1 e).1
            · exact List.mem_append_right _ (hx1.2 e)
          have e := hne v' hin
          simp only [e, if_false]
          exact ⟨fun h => ⟨List.mem_append_left _ (hx1.1 h).1, (hx1.1 h).2⟩, hx1.2⟩
        · rcases mem_take_succ hj hv' with hv' | rfl
          · have hx1 := hprop2 v' hv'
            have e := hne v' (List.mem_append_left _ (hx1.1 huK).1)
            simp only [e, if_false]
            exact ⟨fun h => ⟨List.mem_append_left _ (hx1.1 h).1, (hx1.1 h).2⟩, hx1.2⟩
          · exact ⟨fun _ => ⟨by simp, if_pos rfl⟩, fun h => absurd huK h⟩
      · rename_i spo2 s4 hspo2 S4
        have huK : u ∉ K := by
          have hs : (getK (kf K fun v => AV.int (col v)) u).isSome = false := by assumption
          rw [isSome_kf] at hs; simpa using hs
        refine LoopEnd.next (c := (I, io) :: (D, o') :: (sp, spo2) :: (sa, so0) :: (ga, go) :: (x, instObj 87 dx) :: (dx, o) :: (cl, oc) :: (a, oa) :: (gc2 ++ cs)) (l := [("rows", .ref ra), ("count", .int count), ("graph", .ref g), ("colours", .ref cl), ("assignment", .ref x), ("spilled", .ref sp), ("node", .int u)]) (by walk_at "my_mono") ⟨spo2, go, KR, KS ++ [v], reg, by rw [List.map_append]; exact hspo2, hgo, ?_, fun u' hu' v' hv' => ?_, fun v' hv' => ?_⟩
        · rw [hd1, ← List.append_assoc, ← List.append_assoc]
          exact List.Perm.append_right [v] hKK
        · have hx1 := hprop u' hu' v' hv'
          exact ⟨hx1.1, fun h => List.mem_append_left _ (hx1.2 h)⟩
        · rcases mem_take_succ hj hv' with hv' | rfl
          · have hx1 := hprop2 v' hv'
            exact ⟨hx1.1, fun h => List.mem_append_left _ (hx1.2 h)⟩
          · exact ⟨fun h => absurd h huK, fun _ => by simp⟩
    · clear S1 hspo hgo hKK hprop
      rintro l c s1 ⟨spo, go, KR, KS, reg, hspo, hgo, hKK, hprop, hprop2⟩ S1
      rw [List.length_map, List.take_length] at hKK hprop2
      walk_at "my_go"
      refine LoopEnd.next (c := (D, o') :: (sp, spo) :: (sa, so0) :: (ga, go) :: (x, instObj 87 dx) :: (dx, o) :: (cl, oc) :: (a, oa) :: (gc2 ++ cs)) (l := [("rows", .ref ra), ("count", .int count), ("graph", .ref g), ("colours", .ref cl), ("assignment", .ref x), ("spilled", .ref sp)]) (by walk_at "my_mono") ⟨spo, go, KR, KS, reg, hspo, hgo, by rw [flat_step hi]; exact hKK, fun u' hu' v' hv' => ?_⟩
      rcases mem_take_succ hi hu' with hu' | rfl
      · exact hprop u' hu' v' hv'
      · exact hprop2 v' hv'
  · clear S9 hspo hgo
    rintro l c s1 ⟨spo, go, KR, KS, reg, hspo, hgo, hKK, hprop⟩ S1
    rw [List.length_map, List.take_length] at hKK hprop
    have hKV0 := hKK.trans hflat
    have hKn : (KR ++ KS).Nodup := hKV0.nodup_iff.mpr G0.nodupV
    have hKl := hKV0.length_eq
    rw [List.length_append] at hKl
    walk_at "my_go"
    refine s_spans (by assumption) (by assumption) (hR.mono fun p hp => .tail _ (.tail _ (.tail _ (.tail _ (.tail _ (.tail _ (.tail _ (.tail _ (List.mem_append_right _ hp))))))))) (by omega) hwf ?_
    intro f fo tcs s2 hL S2
    obtain ⟨des, hdes, hkeys, hget⟩ := hL
    walk_at "my_go"
    refine s_slots (l := [("rows", .ref ra), ("count", .int count), ("graph", .ref g), ("colours", .ref cl), ("assignment", .ref x), ("spilled", .ref sp)]) (so := so0) (sa := sa) (o := o) (dx := dx) (ra := ga) (cs := (f, fo) :: (sp, spo) :: (x, instObj 87 dx) :: (dx, o) :: (ga, go) :: (tcs ++ cs)) (lf := lifeOf (spansP rows)) (by assumption) (by walk_at "my_mono") (.tail _ (.tail _ (.head _))) (.tail _ (.tail _ (.tail _ (.head _)))) hg2 hso (.tail _ (.head _)) hspo (.head _) hdes (by omega) (List.nodup_append.mp hKn).2.1 (fun v hv => ?_) ?_
    · have hv2 := hV0.mem_iff.mp (hKV0.mem_iff.mp (List.mem_append_right _ hv))
      obtain ⟨⟨s, e⟩, hse⟩ := Option.isSome_iff_exists.mp ((mem_keys _ _).mp hv2)
      obtain ⟨a, o, a1, a2, a3⟩ := hget v s e hse
      have e2 : lifeOf (spansP rows) v = (s, e) := by unfold lifeOf; rw [hse]; rfl
      exact ⟨a, o, a1, .tail _ (.tail _ (.tail _ (.tail _ (.tail _ (List.mem_append_left _ a2))))), by rw [e2]; exact a3⟩
    intro so KS2 sl s3 hso2 hKS2 hsl0 hsl S3
    walk_at "my_go"
    refine RetK.intro (l' := [("rows", .ref ra), ("count", .int count), ("graph", .ref g), ("colours", .ref cl), ("assignment", .ref x), ("spilled", .ref sp)]) (cs' := (x, instObj 87 dx) :: (dx, o) :: (ga, go) :: (sa, so) :: cs) (by walk_at "my_mono") fun s' S' => ?_
    refine h x dx o ga sa go so KR KS2 reg sl _ hg2 hgo hso2 ⟨V0, nk0, mk0, V, nk, mk, K, col, ord, hV0, hnk0, hmk0, fun u hu => G0.nodupN hu, hrun, P, hord, hsimp, hcol, hKV, hall, ?_, fun u hu v hv => ?_, hsl0, hsl⟩ S'
    · exact (List.Perm.append_left KR hKS2).trans hKV0
    · have hx1 := hprop u (hperm.mem_iff.mpr hu) v hv
      exact ⟨hx1.1, fun h => hKS2.mem_iff.mpr (hx1.2 h)⟩
end
section
variable {w : World} {A : Around} {z s : Shared} {h₀ : Heap} {L : Addr} {l : List (Str × AV)} {cs : List (Addr × Obj)} {n : Nat}
theorem s_draw {st c : Addr} {so co : Obj} {cells : List Int} {at_ rest most : Int} {t : Tok} {Q : Value → Shared → Prop} (C : Cx w A h₀ L (n + 2)) (S : St z h₀ L l ((st, so) :: cs) s)
    (hso : SA w so c at_ rest) (hc : (c, co) ∈ cs) (hco : LI co (cells.map .int)) (hne : cells ≠ []) (hlen : cells.length ≤ 40) (ha : 0 ≤ at_) (ha2 : at_ < 1000) (hr : 0 ≤ rest) (hm : 0 < most) (hm2 : most < 1000)
    (h : ∀ d t' so' at' rest' s', 0 ≤ d → d < most → at_ ≤ at' → at' ≤ at_ + 1 → 0 ≤ rest' → SA w so' c at' rest' → St z h₀ L l ((st, so') :: cs) s' → Q (.int d t') s') : WP w A (call (.ref 208) [.ref st, .int most t] []) Q s := by
  refine' r_call [("state", .ref st), ("most", .int most)] C S ?ho ?hcd ?hbi ?hl ?hbs ?hnd ?_ ?hc ?h1 ?h2 ?h3
  walk_at "my_enter"
  rename_i gg LL AA s0 C0 S0
  clear C S
  obtain ⟨es, hes, e1, e2, e3, e4⟩ := hso
  have hcl : 0 < cells.length := List.length_pos_iff.mpr hne
  have hidx : 0 ≤ at_ % (cells.map AV.int).length := Int.emod_nonneg _ (by simp; omega)
  have hidx2 : at_ % (cells.map AV.int).length < 100000 := by
    have := Int.emod_lt_of_pos at_ (b := (cells.map AV.int).length) (by simp; omega)
    simp at this ⊢; omega
  have hmp : (0 : Int) < ((cells.map AV.int).length : Nat) := by simp; omega
  have hcl2 : (cells.map AV.int).length < 1000000 := by simp; omega
  obtain ⟨x, hx⟩ : ∃ x, (cells.map AV.int)[(at_ % (cells.map AV.int).length).toNat]? = some (.int x) := by
    have hlt : (at_ % (cells.map AV.int).length).toNat < cells.length := by
      have := Int.emod_lt_of_pos at_ (b := (cells.map AV.int).length) (by simp; omega)
      simp at this ⊢; omega
    exact ⟨cells[(at_ % (cells.map AV.int).length).toNat], by rw [List.getElem?_map, List.getElem?_eq_getElem hlt]; rfl⟩
  have hx1 := Int.emod_nonneg x (b := 998244353) (by omega)
  have hx2 := Int.emod_lt_of_pos x (b := 998244353) (by omega)
  have hs0 : 0 ≤ x % 998244353 + 524287 * at_ + 31 := by omega
  have hbig : 0 ≤ (x % 998244353 + 524287 * at_ + 31) * (x % 998244353 + 524287 * at_ + 31) * 1000003 + 77 * (x % 998244353 + 524287 * at_ + 31) + at_ := by
    have h1 := Int.mul_nonneg (Int.mul_nonneg hs0 hs0) (show (0 : Int) ≤ 1000003 by decide)
    omega
  have f3 : (getK es "rest").isSome = true := by rw [e3]; rfl
  have stp : StopIf := stopIf
  walk_at "my_go"
  refine joinedN (fun s' => ∃ so' at' rest', SA w so' c at' rest' ∧ at_ ≤ at' ∧ at' ≤ at_ + 1 ∧ 0 ≤ rest' ∧ St z gg LL [("state", .ref st), ("most", .int most)] ((st, so') :: cs) s') ?_ ?_
  · clear stp
    walk_at "my_go"
    · rename_i o2 s2 hd2 S2
      exact AtNext.mk ⟨o2, at_ + 1, _, sa_two e1 e2 f3 e4 hd2, by omega, by omega, Int.emod_nonneg _ (by decide), by walk_at "my_mono"⟩
    · rename_i o2 s2 hd2 S2
      exact AtNext.mk ⟨o2, at_ + 1, _, sa_two e1 e2 f3 e4 hd2, by omega, by omega, hbig, by walk_at "my_mono"⟩
    · rename_i o2 s2 hd2 S2
      exact AtNext.mk ⟨o2, at_ + 1, _, sa_two e1 e2 f3 e4 hd2, by omega, by omega, hbig, by walk_at "my_mono"⟩
    · exact AtNext.mk ⟨so, at_, rest, ⟨es, hes, e1, e2, e3, e4⟩, by omega, by omega, hr, by walk_at "my_mono"⟩
  · rintro s5 ⟨so', at', rest', ⟨es', hes', e1', e2', e3', e4'⟩, ha1, ha2, hr', S5⟩
    have f3' : (getK es' "rest").isSome = true := by rw [e3']; rfl
    clear stp hes e1 e2 e3 e4 f3 hbig hx hx1 hx2 hs0
    walk_at "my_go"
    rename_i o2 s2 hd2 S2 t2
    refine RetK.intro (l' := [("state", .ref st), ("most", .int most)]) (cs' := (st, o2) :: cs) (by walk_at "my_mono") fun s' S' => ?_
    exact h _ t2 o2 at' _ s' (Int.emod_nonneg _ (by omega)) (Int.emod_lt_of_pos _ hm) (by omega) (by omega) (Int.ediv_nonneg hr' (by omega)) (sa_rest e1' e2' f3' e4' hd2) S'
end
inductive RowsJ (w : World) (c st ra va : Addr) (cs : List (Addr × Obj)) (i : Nat) : List (Str × AV) → List (Addr × Obj) → Prop
  | mk (so : Obj) (at_ rest : Int) (ro vo : Obj) (tc : List (Addr × Obj)) (rows : List Row) (vals : List Int) (number : Int) (as : List Addr) (h1 : SA w so c at_ rest) (h2 : 0 ≤ at_) (h3 : at_ ≤ 1 + 3 * i) (h4 : 0 ≤ rest)
      (h5 : LI ro (as.map .ref)) (h6 : as.length = rows.length) (h7 : ∀ (i : Nat) (r : Row), rows[i]? = some r → ∃ a o, as[i]? = some a ∧ (a, o) ∈ tc ∧ TI o r.avs) (h8 : LI vo (vals.map .int)) (h9 : Gen rows vals number)
      (h10 : 60 - 3 * i ≤ number) (h11 : vals.length ≤ i + 1) (h12 : rows.length = i + 1) :
      RowsJ w c st ra va cs i [("state", .ref st), ("number", .int number), ("rows", .ref ra), ("values", .ref va)] ((st, so) :: (va, vo) :: (ra, ro) :: (tc ++ cs))
theorem ar_le3 {a b c d : Int} (h : 0 ≤ a) (h1 : a ≤ b) (h2 : b ≤ c) (h3 : c ≤ d) : 0 ≤ d := Int.le_trans (Int.le_trans (Int.le_trans h h1) h2) h3
theorem ar_le {a b c : Int} (h : 0 ≤ a) (h1 : a ≤ b) (h2 : b ≤ c) : 0 ≤ c := Int.le_trans (Int.le_trans h h1) h2
theorem ar_up3 {a b c d : Int} {i : Nat} (h : a ≤ 1 + 3 * i) (h1 : b ≤ a + 1) (h2 : c ≤ b + 1) (h3 : d ≤ c + 1) : d ≤ 1 + 3 * ((i + 1 : Nat) : Int) := by omega
theorem ar_up {a b c : Int} {i : Nat} (h : a ≤ 1 + 3 * i) (h1 : b ≤ a + 1) (h2 : c ≤ b + 1) : c ≤ 1 + 3 * ((i + 1 : Nat) : Int) := ar_up3 h h1 h2 (by omega)
theorem ar_num {m : Int} {i : Nat} (h : 60 - 3 * i ≤ m) : 60 - 3 * ((i + 1 : Nat) : Int) ≤ m - 3 := by omega
theorem ar_num0 {m : Int} {i : Nat} (h : 60 - 3 * i ≤ m) : 60 - 3 * ((i + 1 : Nat) : Int) ≤ m := by omega
theorem ar_lt {a b c : Int} {i : Nat} (h : a ≤ 1 + 3 * i) (hi : i < 17) (h1 : b ≤ a + 1) (h2 : c ≤ b + 1) : c < 1000 := by omega
theorem ar_lt1 {a b : Int} {i : Nat} (h : a ≤ 1 + 3 * i) (hi : i < 17) (h1 : b ≤ a + 1) : b < 1000 := by omega
theorem ar_lt0 {a : Int} {i : Nat} (h : a ≤ 1 + 3 * i) (hi : i < 17) : a < 1000 := by omega
theorem sn_eq {α : Type} {l : List α} {x : α} {n : Nat} (h : l.length = n) : (l ++ [x]).length = n + 1 := by rw [List.length_append, h]; rfl
theorem sn_le {α : Type} {l : List α} {x : α} {n : Nat} (h : l.length ≤ n) : (l ++ [x]).length ≤ n + 1 := by rw [List.length_append]; exact Nat.succ_le_succ h
section
variable {w : World} {A : Around} {z s : Shared} {h₀ : Heap} {L : Addr} {l : List (Str × AV)} {cs : List (Addr × Obj)} {n : Nat}
theorem s_rows {st c : Addr} {so co : Obj} {cells : List Int} {Q : Value → Shared → Prop} (C : Cx w A h₀ L (n + 4)) (S : St z h₀ L l ((st, so) :: cs) s)
    (hso : SA w so c 0 0) (hc : (c, co) ∈ cs) (hco : LI co (cells.map .int)) (hne : cells ≠ []) (hlen : cells.length ≤ 40)
    (h : ∀ so' at' rest' ra ro tc rows s', SA w so' c at' rest' → 0 ≤ at' → at' < 100 → 0 ≤ rest' → RowsAt ((ra, ro) :: tc) ra ro rows → WF rows → rows.length ≤ 18 → St z h₀ L l ((ra, ro) :: (tc ++ (st, so') :: cs)) s' → Q (.ref ra) s') : WP w A (call (.ref 215) [.ref st] []) Q s := by
  refine' r_call [("state", .ref st)] C S ?ho ?hcd ?hbi ?hl ?hbs ?hnd ?_ ?hc ?h1 ?h2 ?h3
  walk_at "my_enter"
  rename_i gg LL AA s0 C0 S0
  clear C S
  walk_at "my_go"
  rename_i t0 ot0 s2 hot0 S2 ra ro0 s3 hro S3 s4 S4 tq va vo0 s5 hvo S5 s6 S6 tm s7 S7
  clear S2 S3 S4 S5 S6
  refine s_draw (l := [("state", .ref st), ("number", .int 60), ("rows", .ref ra), ("values", .ref va)]) (cs := (va, vo0) :: (ra, ro0) :: (t0, ot0) :: cs) (by assumption) (by walk_at "my_mono") hso (.tail _ (.tail _ (.tail _ hc))) hco hne hlen (by decide) (by decide) (by decide) (by decide) (by decide) ?_
  intro D tD so1 at1 rest1 s8 hD0 hD1 hat0 hat1 hr1 hso1 S8
  walk_at "my_go"
  rename_i rg rgo s9 hrg S9
  refine r_iter_range (l := [("state", .ref st), ("number", .int 60), ("rows", .ref ra), ("values", .ref va)]) (cs := (st, so1) :: (va, vo0) :: (ra, ro0) :: ([(t0, ot0)] ++ cs)) (by assumption) S9 List.mem_cons_self hrg hD0 (by omega) (by walk_at "my_mono")
    (RowsJ w c st ra va cs) ⟨so1, at1, rest1, ro0, vo0, [(t0, ot0)], [⟨"in", 60, 0, 0⟩], [60], 60, [t0], hso1, by omega, by omega, hr1, hro, rfl, ?_, hvo, Gen.start, by omega, by simp, rfl⟩ ?_ ?_
  · intro i r hr
    have : i = 0 := by have := lt_of_get hr; simp at this; exact this
    subst this; simp at hr; subst hr
    exact ⟨t0, ot0, rfl, .head _, hot0⟩
  · clear S7 S8 S9
    rintro i t l c io I s1 hi ⟨so, at_, rest, ro, vo, tc, rows, vals, number, as, hso, ha0, ha1, hr0, hro, hal, hrow, hvo, hgen, hnum, hvl, hrl⟩ S1
    have hi16 : i < 17 := by omega
    walk_at "my_go"
    refine s_draw (l := [("state", .ref st), ("number", .int number), ("rows", .ref ra), ("values", .ref va), ("step", .int i)]) (cs := (I, io) :: (va, vo) :: (ra, ro) :: (tc ++ cs)) (by assumption) (by walk_at "my_mono") hso (.tail _ (.tail _ (.tail _ (List.mem_append_right _ hc)))) hco hne hlen ha0 (ar_lt0 ha1 hi16) hr0 (by decide) (by decide) ?_
    clear S1 hso
    intro sort t1 so1 at1 rest1 s2 hs0 hs9 hb0 hb1 hr1 hso1 S2
    have hvne : 0 < vals.length := List.length_pos_iff.mpr hgen.ne
    have hvl2 : (vals.map AV.int).length < 1000000 := by simp; omega
    walk_at "my_go"
    refine s_draw (l := [("state", .ref st), ("number", .int number), ("rows", .ref ra), ("values", .ref va), ("step", .int i), ("sort", .int sort)]) (cs := (I, io) :: (va, vo) :: (ra, ro) :: (tc ++ cs)) (by assumption) (by walk_at "my_mono") hso1 (.tail _ (.tail _ (.tail _ (List.mem_append_right _ hc)))) hco hne hlen (Int.le_trans ha0 hb0) (ar_lt1 ha1 hi16 hb1) hr1 (by simp; omega) (by simp; omega) ?_
    clear S2 hso1
    intro d2 t2 so2 at2 rest2 s3 hd0 hd1 hb2 hb3 hr2 hso2 S3
    rw [List.length_map] at hd1
    have hd2 : d2.toNat < vals.length := by omega
    have hd100 : d2 < 100000 := by omega
    obtain ⟨elder, hel⟩ : ∃ e, vals[d2.toNat]? = some e := ⟨_, List.getElem?_eq_getElem hd2⟩
    have hx1 : (vals.map AV.int)[d2.toNat]? = some (.int elder) := by rw [List.getElem?_map, hel]; rfl
    have hle : ((vals.map AV.int).length : Int) - 1 < 100000 := by simp; omega
    have hle0 : 0 ≤ ((vals.map AV.int).length : Int) - 1 := by simp; omega
    obtain ⟨newest, hnw⟩ : ∃ e, vals[(((vals.map AV.int).length : Int) - 1).toNat]? = some e := ⟨_, List.getElem?_eq_getElem (by simp; omega)⟩
    have hx2 : (vals.map AV.int)[(((vals.map AV.int).length : Int) - 1).toNat]? = some (.int newest) := by rw [List.getElem?_map, hnw]; rfl
    have hev : elder ∈ vals := List.mem_of_getElem? hel
    have hnv : newest ∈ vals := List.mem_of_getElem? hnw
    have hral : (as.map AV.ref).length < 100000 := by simp; omega
    have hval : (vals.map AV.int).length < 100000 := by simp; omega
    have hn3 : 3 ≤ number := by omega
    have stp : StopIf := stopIf
    walk_at "my_go"
    walk1
    walk_at "my_go"
    · clear stp
      refine s_draw (l := [("state", .ref st), ("number", .int number), ("rows", .ref ra), ("values", .ref va), ("step", .int i), ("sort", .int sort), ("elder", .int elder), ("newest", .int newest)]) (cs := (I, io) :: (va, vo) :: (ra, ro) :: (tc ++ cs)) (by assumption) (by walk_at "my_mono") hso2 (.tail _ (.tail _ (.tail _ (List.mem_append_right _ hc)))) hco hne hlen (ar_le ha0 hb0 hb2) (ar_lt ha1 hi16 hb1 hb3) hr2 (by decide) (by decide) ?_
      clear hso2
      intro d3 t3 so3 at3 rest3 s4 he0 he1 hb4 hb5 hr3 hso3 S4
      walk_at "my_go"
      rename_i tt ot sA hot SA ro2 sB hro2 SB
      obtain ⟨l1, l2⟩ := RowsAt.snoc (cs := (tt, ot) :: tc) (r := ⟨"out", d3, elder, 0⟩) hro hal (fun i r hr => by obtain ⟨a, o, a1, a2, a3⟩ := hrow i r hr; exact ⟨a, o, a1, .tail _ a2, a3⟩) (.head _) hot
      exact LoopEnd.cont (c := (st, so3) :: (va, vo) :: (ra, ro2) :: (((tt, ot) :: tc) ++ cs)) (l := [("state", .ref st), ("number", .int number), ("rows", .ref ra), ("values", .ref va)]) (by walk_at "my_mono")
        ⟨so3, at3, rest3, ro2, vo, (tt, ot) :: tc, rows ++ [⟨"out", d3, elder, 0⟩], vals, number, as ++ [tt], hso3, ar_le3 ha0 hb0 hb2 hb4, ar_up3 ha1 hb1 hb3 hb5, hr3, by rw [List.map_append]; exact hro2, l1, l2, hvo, hgen.out rfl hev, ar_num0 hnum, Nat.le_succ_of_le hvl, sn_eq hrl⟩
    · rename_i sL SL
      refine joinedN (fun s' => ∃ (r : Row) (tt : Addr) (ot ro2 : Obj), r.name = number - 3 ∧ (r.kind = "in" ∨ r.kind = "copy" ∨ r.kind = "const" ∨ r.kind = "xor") ∧ (∀ v ∈ reads r, v ∈ vals) ∧ LI ro2 ((as ++ [tt]).map .ref) ∧ TI ot r.avs ∧ St z gg LL [("state", .ref st), ("number", .int (number - 3)), ("rows", .ref ra), ("values", .ref va), ("step", .int i), ("sort", .int sort), ("elder", .int elder), ("newest", .int newest)] ((ra, ro2) :: (tt, ot) :: (st, so2) :: (I, io) :: (va, vo) :: (tc ++ cs)) s') ?_ ?_
      · clear stp
        walk_at "my_go"
        · rename_i tt ot sA hot SA ro2 sB hro2 SB
          refine AtNext.mk ⟨⟨"copy", number - 3, newest, 0⟩, tt, ot, ro2, rfl, by simp, fun v hv => ?_, by rw [List.map_append]; exact hro2, hot, by walk_at "my_mono"⟩
          have e : reads ⟨"copy", number - 3, newest, 0⟩ = [newest] := rfl
          rw [e] at hv; simp at hv; subst hv; exact hnv
        · rename_i tt ot sA hot SA ro2 sB hro2 SB
          refine AtNext.mk ⟨⟨"copy", number - 3, elder, 0⟩, tt, ot, ro2, rfl, by simp, fun v hv => ?_, by rw [List.map_append]; exact hro2, hot, by walk_at "my_mono"⟩
          have e : reads ⟨"copy", number - 3, elder, 0⟩ = [elder] := rfl
          rw [e] at hv; simp at hv; subst hv; exact hev
        · rename_i tt ot sA hot SA ro2 sB hro2 SB
          refine AtNext.mk ⟨⟨"const", number - 3, i, 0⟩, tt, ot, ro2, rfl, by simp, fun v hv => ?_, by rw [List.map_append]; exact hro2, hot, by walk_at "my_mono"⟩
          have e : reads ⟨"const", number - 3, i, 0⟩ = [] := rfl
          rw [e] at hv; simp at hv
        · rename_i tt ot sA hot SA ro2 sB hro2 SB
          refine AtNext.mk ⟨⟨"xor", number - 3, newest, elder⟩, tt, ot, ro2, rfl, by simp, fun v hv => ?_, by rw [List.map_append]; exact hro2, hot, by walk_at "my_mono"⟩
          have e : reads ⟨"xor", number - 3, newest, elder⟩ = [newest, elder] := rfl
          rw [e] at hv; simp at hv
          rcases hv with rfl | rfl
          · exact hnv
          · exact hev
      · rintro s10 ⟨r, tt, ot, ro2, hrn, hrk, hru, hro2, hot, S10⟩
        clear SL stp
        walk_at "my_go"
        rename_i tq vo2 sC hvo2 SC
        obtain ⟨l1, l2⟩ := RowsAt.snoc (cs := (tt, ot) :: tc) (r := r) hro hal (fun i r hr => by obtain ⟨a, o, a1, a2, a3⟩ := hrow i r hr; exact ⟨a, o, a1, .tail _ a2, a3⟩) (.head _) hot
        exact LoopEnd.next (c := (st, so2) :: (va, vo2) :: (ra, ro2) :: (((tt, ot) :: tc) ++ cs)) (l := [("state", .ref st), ("number", .int (number - 3)), ("rows", .ref ra), ("values", .ref va)]) (by walk_at "my_mono")
          ⟨so2, at2, rest2, ro2, vo2, (tt, ot) :: tc, rows ++ [r], vals ++ [number - 3], number - 3, as ++ [tt], hso2, ar_le ha0 hb0 hb2, ar_up ha1 hb1 hb3, hr2, hro2, l1, l2, by rw [List.map_append]; exact hvo2, hgen.new hn3 hrn hrk hru, ar_num hnum, sn_le hvl, sn_eq hrl⟩
  · rintro l c2 s1 ⟨so, at_, rest, ro, vo, tc, rows, vals, number, as, hso, ha0, ha1, hr0, hro, hal, hrow, hvo, hgen, hnum, hvl, hrl⟩ S1
    walk_at "my_go"
    refine RetK.intro (l' := [("state", .ref st)]) (cs' := (ra, ro) :: (tc ++ (st, so) :: cs)) (by walk_at "my_mono") fun s' S' => ?_
    refine h so at_ rest ra ro tc rows s' hso ha0 (by omega) hr0 ⟨.head _, as, hro, hal, fun i r hr => ?_⟩ hgen.wf (by omega) S'
    obtain ⟨a, o, a1, a2, a3⟩ := hrow i r hr
    exact ⟨a, o, a1, .tail _ a2, a3⟩
end
theorem reads_xor {r : Row} (h : (r.kind == "xor") = true) : reads r = [r.left, r.right] := by
  have e : r.kind = "xor" := by simpa only [beq_iff_eq] using h
  unfold reads
  rw [if_neg (by rw [e]; decide), if_neg (by rw [e]; decide), if_pos h]
theorem reads_not {r : Row} (h : (r.kind == "xor") = false) : reads r = if (r.kind == "copy") = true ∨ (r.kind == "out") = true then [r.left] else [] := by
  unfold reads
  by_cases h1 : (r.kind == "copy") = true
  · rw [if_pos h1, if_pos (.inl h1)]
  · by_cases h2 : (r.kind == "out") = true
    · rw [if_neg h1, if_pos h2, if_pos (.inr h2)]
    · rw [if_neg h1, if_neg h2, if_neg (by rw [h]; decide), if_neg (fun q => q.elim h1 h2)]
section
variable {w : World} {A : Around} {z s : Shared} {h₀ : Heap} {L : Addr} {l : List (Str × AV)} {cs : List (Addr × Obj)} {n : Nat}
theorem s_times {ra : Addr} {ro : Obj} {rows : List Row} {Q : Value → Shared → Prop} (C : Cx w A h₀ L (n + 4)) (S : St z h₀ L l cs s)
    (hR : RowsAt cs ra ro rows) (hw : WF rows) (hlen : rows.length ≤ 18)
    (h : ∀ t to s', DI w to (tm (spansP rows)) → St z h₀ L l ((t, to) :: cs) s' → Q (.ref t) s') : WP w A (call (.ref 222) [.ref ra] []) Q s := by
  refine' r_call [("rows", .ref ra)] C S ?ho ?hcd ?hbi ?hl ?hbs ?hnd ?_ ?hc ?h1 ?h2 ?h3
  walk_at "my_enter"
  rename_i gg LL AA s0 C0 S0
  clear C S
  obtain ⟨mra, as, hLr, hal, hrow⟩ := hR
  walk_at "my_go"
  rename_i f fo s1 hf S1 s2 S2 t s3 S3 rg rgo s4 hrg S4
  rw [List.length_map, hal] at hrg
  refine r_iter_range (by assumption) S4 List.mem_cons_self hrg (by omega) (by omega) (S4.cells (cs' := (f, fo) :: cs) (by walk_at "my_sub") (by walk_at "my_cnt"))
    (fun i l c => ∃ fo, l = ([("rows", .ref ra), ("times", .ref f)] : List (Str × AV)) ∧ c = (f, fo) :: cs ∧ DI w fo (tm (spansN rows i))) ⟨fo, rfl, rfl, hf⟩ ?_ ?_
  · clear S1 S2 S3 S4 hf hrg
    rintro i t l c io I s' hi ⟨fo, rfl, rfl, hf⟩ S'
    obtain ⟨r, hr⟩ : ∃ r, rows[i]? = some r := ⟨rows[i]'(by omega), List.getElem?_eq_getElem _⟩
    obtain ⟨a, o, ha, hmem, ho⟩ := hrow i r hr
    have hx : (as.map AV.ref)[((i : Nat) : Int).toNat]? = some (.ref a) := by simp [ha]
    have hi18 : i < 18 := by omega
    have stp : StopIf := stopIf
    walk_at "my_go"
    rename_i u uo _ hu _ s9 S9
    refine joinedN (fun s' => ∃ u uo, LI uo ((if (r.kind == "copy") = true ∨ (r.kind == "out") = true then [r.left] else []).map .int) ∧ St z gg LL [("rows", .ref ra), ("times", .ref f), ("at", .int i), ("kind", .str r.kind), ("name", .int r.name), ("left", .int r.left), ("right", .int r.right), ("readers", .ref u)] ((u, uo) :: (I, io) :: (f, fo) :: cs) s') ?_ ?_
    · clear stp
      walk_at "my_go"
      · rename_i u2 uo2 _ hu2 _ _ S2
        have hk : (r.kind == "copy") = true := by assumption
        exact AtNext.mk ⟨u2, uo2, by rw [if_pos (.inl hk)]; exact hu2, by walk_at "my_mono"⟩
      · rename_i u2 uo2 _ hu2 _ _ S2
        have hk : (r.kind == "out") = true := by assumption
        exact AtNext.mk ⟨u2, uo2, by rw [if_pos (.inr hk)]; exact hu2, by walk_at "my_mono"⟩
      · have hk : (r.kind == "copy") = false := by assumption
        have hk2 : (r.kind == "out") = false := by assumption
        exact AtNext.mk ⟨u, uo, by rw [if_neg (by rw [hk, hk2]; decide)]; exact hu, by walk_at "my_mono"⟩
    · rintro s10 ⟨u1, u1o, hu1, S10⟩
      clear S9 hu
      walk_at "my_go"
      refine joinedN (fun s' => ∃ u uo, LI uo ((reads r).map .int) ∧ St z gg LL [("rows", .ref ra), ("times", .ref f), ("at", .int i), ("kind", .str r.kind), ("name", .int r.name), ("left", .int r.left), ("right", .int r.right), ("readers", .ref u)] ((u, uo) :: (I, io) :: (f, fo) :: cs) s') ?_ ?_
      · clear stp
        walk_at "my_go"
        · rename_i u2 uo2 _ hu2 _ _ S2
          have hk : (r.kind == "xor") = true := by assumption
          exact AtNext.mk ⟨u2, uo2, by rw [reads_xor hk]; exact hu2, by walk_at "my_mono"⟩
        · have hk : (r.kind == "xor") = false := by assumption
          exact AtNext.mk ⟨u1, u1o, by rw [reads_not hk]; exact hu1, by walk_at "my_mono"⟩
      · rintro s11 ⟨u, uo, hu', S11⟩
        clear S10 hu1 stp
        walk_at "my_go"
        refine r_iter_list (l := [("rows", .ref ra), ("times", .ref f), ("at", .int i), ("kind", .str r.kind), ("name", .int r.name), ("left", .int r.left), ("right", .int r.right), ("readers", .ref u)]) (cs := (u, uo) :: (I, io) :: (f, fo) :: cs) (by assumption) (by walk_at "my_mono") hu'
          (fun j l c => ∃ fo, l = ([("rows", .ref ra), ("times", .ref f), ("at", .int i), ("kind", .str r.kind), ("name", .int r.name), ("left", .int r.left), ("right", .int r.right), ("readers", .ref u)] : List (Str × AV)) ∧ c = (u, uo) :: (I, io) :: (f, fo) :: cs ∧ DI w fo (tm (readE rows i r j))) ⟨fo, rfl, rfl, hf⟩ ?_ ?_ ?_
        · rintro j l c ⟨fo, rfl, rfl, _⟩; exact .head _
        · clear S11 hf
          rintro j av vv l c io2 I2 s1 hj hv ⟨fo, rfl, rfl, hf⟩ S1
          rw [List.getElem?_map, Option.map_eq_some_iff] at hj
          obtain ⟨x, hj, rfl⟩ := hj
          obtain ⟨tx, rfl⟩ := hv
          obtain ⟨p, hp, hpm, p0, p1, p2, p3⟩ := read_get hw hr hj
          have hdl : (tm (readE rows i r j)).length < 100000 := by
            have := readE_length hw hr j
            rw [length_tm]; omega
          have hsh : 2 * (i : Int) + 1 ≤ 1000000 := by omega
          have hsh0 : 0 ≤ 2 * (i : Int) + 1 := by omega
          walk_at "my_go"
          rename_i fo2 s2 hf2 S2
          rw [read_set hj hp p0 p1 p2 p3 hi18] at hf2
          exact LoopEnd.next (c := (u, uo) :: (I, io) :: (f, fo2) :: cs) (l := [("rows", .ref ra), ("times", .ref f), ("at", .int i), ("kind", .str r.kind), ("name", .int r.name), ("left", .int r.left), ("right", .int r.right), ("readers", .ref u)]) (by walk_at "my_mono") ⟨fo2, rfl, rfl, hf2⟩
        · clear S11 hf
          rintro l c s1 ⟨fo, rfl, rfl, hf⟩ S1
          rw [List.length_map] at hf
          have hdl : (tm (readE rows i r (reads r).length)).length < 100000 := by
            have := readE_length hw hr (reads r).length
            rw [length_tm]; omega
          have hsh : 2 * (i : Int) + 1 ≤ 1000000 := by omega
          have hsh0 : 0 ≤ 2 * (i : Int) + 1 := by omega
          walk_at "my_go"
          · rename_i fo2 s2 hf2 S2
            have hoo : r.isOut = false := by
              have a1 : (r.kind != "out") = true := by assumption
              rw [bne, Bool.not_eq_true'] at a1; exact a1
            rw [def_set hw hr hoo] at hf2
            exact LoopEnd.next (c := (f, fo2) :: cs) (l := [("rows", .ref ra), ("times", .ref f)]) (by walk_at "my_mono") ⟨fo2, rfl, rfl, hf2⟩
          · have hoo : r.isOut = true := by
              have a1 : (r.kind != "out") = false := by assumption
              rw [bne, Bool.not_eq_false'] at a1; exact a1
            rw [out_set hw hr hoo] at hf
            exact LoopEnd.next (c := (f, fo) :: cs) (l := [("rows", .ref ra), ("times", .ref f)]) (by walk_at "my_mono") ⟨fo, rfl, rfl, hf⟩
  · rintro l c s1 ⟨fo, rfl, rfl, hf⟩ S1
    walk_at "my_go"
    refine RetK.intro (l' := [("rows", .ref ra), ("times", .ref f)]) (cs' := (f, fo) :: cs) (by walk_at "my_mono") fun s' S' => ?_
    exact h f fo s' hf S'
end
section
variable {w : World} {A : Around} {z s : Shared} {h₀ : Heap} {L : Addr} {l : List (Str × AV)} {cs : List (Addr × Obj)} {n : Nat}
theorem s_most_alive {ra f : Addr} {ro fo : Obj} {rows : List Row} {Q : Value → Shared → Prop} (C : Cx w A h₀ L (n + 4)) (S : St z h₀ L l cs s)
    (hR : RowsAt cs ra ro rows) (hw : WF rows) (hlen : rows.length ≤ 18) (hf1 : (f, fo) ∈ cs) (hf : DI w fo (tm (spansP rows)))
    (h : ∀ (m : Int) t s', (∀ count : Int, 0 ≤ count → (m ≤ count ↔ ∀ t : Nat, t ≤ 2 * rows.length → (aliveN (spansP rows) t : Int) ≤ count)) → St z h₀ L l cs s' → Q (.int m t) s') : WP w A (call (.ref 229) [.ref ra, .ref f] []) Q s := by
  refine' r_call [("rows", .ref ra), ("times", .ref f)] C S ?ho ?hcd ?hbi ?hl ?hbs ?hnd ?_ ?hc ?h1 ?h2 ?h3
  walk_at "my_enter"
  clear C S
  obtain ⟨mra, as, hLr, hal, hrow⟩ := hR
  walk_at "my_go"
  rename_i s1 S1 s2 S2 rg rgo s4 hrg S4
  rw [List.length_map, hal] at hrg
  refine r_iter_range (l := [("rows", .ref ra), ("times", .ref f), ("most", .int 0)]) (cs := cs) (by assumption) S4 List.mem_cons_self hrg (by omega) (by omega) (by walk_at "my_mono")
    (fun i l c => ∃ most : Int, l = ([("rows", .ref ra), ("times", .ref f), ("most", .int most)] : List (Str × AV)) ∧ c = cs ∧ (∀ count : Int, 0 ≤ count → (most ≤ count ↔ ∀ t : Nat, t < i → (aliveN (spansP rows) t : Int) ≤ count))) ⟨0, rfl, rfl, fun count hc => ⟨fun _ t ht => by omega, fun _ => hc⟩⟩ ?_ ?_
  · clear S1 S2 S4 hrg
    rintro i t l c io I s' hi ⟨most, rfl, rfl, hmost⟩ S'
    have hi36 : (i : Int) < 1000 := by omega
    walk_at "my_go"
    rename_i t0 s1 S1 s2 S2
    refine r_iter_dict (l := [("rows", .ref ra), ("times", .ref f), ("most", .int most), ("moment", .int i), ("alive", .int 0)]) (cs := (I, io) :: c) (by assumption) (by walk_at "my_mono") hf
      (fun j l c2 => ∃ alive : Int, l = ([("rows", .ref ra), ("times", .ref f), ("most", .int most), ("moment", .int i), ("alive", .int alive)] : List (Str × AV)) ∧ c2 = (I, io) :: c ∧ alive = ((((spansP rows).map (·.1)).take j).filter (aliveAt (spansP rows) i)).length) ⟨0, rfl, rfl, rfl⟩ ?_ ?_ ?_
    · rintro j l c2 ⟨_, rfl, rfl, _⟩; exact .tail _ hf1
    · clear S1 S2 S'
      rintro j x tx l c2 io2 I2 s1 hj ⟨alive, rfl, rfl, hal2⟩ S1
      rw [keys_tm] at hj
      have hk := List.mem_of_getElem? hj
      obtain ⟨k1, k2, k3, k4⟩ := hw.life hk
      have hgx : getK (tm (spansP rows)) x = some (.int (mask (lifeOf (spansP rows) x))) := by rw [getK_tm, k1]; rfl
      walk_at "my_go"
      rename_i S9
      refine LoopEnd.next (c := (I, io) :: c) (l := [("rows", .ref ra), ("times", .ref f), ("most", .int most), ("moment", .int i), ("alive", .int (alive + Builtin.bitAnd (mask (lifeOf (spansP rows) x) / 2 ^ ((i : Int)).toNat) 1))]) (by walk_at "my_mono") ⟨_, rfl, rfl, ?_⟩
      rw [Int.toNat_natCast, mask_at i k2 k3, hal2, List.take_add_one, hj]
      rw [List.filter_append, List.length_append]
      show _ = (((_ : Nat) + ((Option.some x).toList.filter (aliveAt (spansP rows) i)).length : Nat) : Int)
      rw [show (Option.some x).toList = [x] from rfl, List.filter_cons]
      unfold aliveAt
      split <;> simp
    · clear S1 S2 S'
      rintro l c2 s1 ⟨alive, rfl, rfl, hal2⟩ S1
      have e1 : (tm (spansP rows)).length = ((spansP rows).map (·.1)).length := by rw [length_tm, List.length_map]
      rw [e1, List.take_length] at hal2
      have hal3 : alive = (aliveN (spansP rows) i : Int) := hal2
      walk_at "my_go"
      rename_i S9
      refine LoopEnd.next (c := c) (l := [("rows", .ref ra), ("times", .ref f), ("most", .int (if alive > most then alive else most))]) (by walk_at "my_mono") ⟨_, rfl, rfl, fun count hc => ?_⟩
      have hm := hmost count hc
      constructor
      · intro hle t ht
        by_cases e : t = i
        · subst e; split at hle <;> omega
        · exact hm.mp (by split at hle <;> omega) t (by omega)
      · intro hall
        have h1 := hm.mpr fun t ht => hall t (by omega)
        have h2 := hall i (by omega)
        split <;> omega
  · rintro l c s1 ⟨most, rfl, rfl, hmost⟩ S1
    walk_at "my_go"
    rename_i t9
    refine RetK.intro (l' := [("rows", .ref ra), ("times", .ref f), ("most", .int most)]) (cs' := c) (by assumption) fun s' S' => ?_
    refine h most _ s' (fun count hc => (hmost count hc).trans ⟨fun hh t ht => hh t (by omega), fun hh t ht => hh t (by omega)⟩) S'
end
section
variable {w : World} {A : Around} {z s : Shared} {h₀ : Heap} {L : Addr} {l : List (Str × AV)} {cs : List (Addr × Obj)} {n : Nat}
theorem s_where {x dx ga sa : Addr} {o go so : Obj} {KR KS : List Int} {reg sl : Int → Int} {v : Int} {tv : Tok} {Q : Value → Shared → Prop} (C : Cx w A h₀ L (n + 1)) (S : St z h₀ L l cs s)
    (hx : (x, instObj 87 dx) ∈ cs) (hdx : (dx, o) ∈ cs) (hg2 : G2 "registers" "slots" o ga sa) (hgo1 : (ga, go) ∈ cs) (hso1 : (sa, so) ∈ cs) (hgo : DI w go (kf KR fun v => .int (reg v))) (hso : DI w so (kf KS fun v => .int (sl v)))
    (hv : v ∈ KR ∨ v ∈ KS)
    (h : ∀ t s', St z h₀ L l cs s' → Q (.int (spot KR reg sl v) t) s') : WP w A (call (.ref 236) [.ref x, .int v tv] []) Q s := by
  refine' r_call [("found", .ref x), ("name", .int v)] C S ?ho ?hcd ?hbi ?hl ?hbs ?hnd ?_ ?hc ?h1 ?h2 ?h3
  walk_at "my_enter"
  clear C S
  have hg1 : (getK (kf KR fun v => AV.int (reg v)) v).isSome = true → getK (kf KR fun v => AV.int (reg v)) v = some (.int (reg v)) := fun e => by
    rw [isSome_kf, decide_eq_true_eq] at e; exact getK_kf (f := fun v => AV.int (reg v)) e
  have hg3 : v ∉ KR → getK (kf KS fun v => AV.int (sl v)) v = some (.int (sl v)) := fun e => getK_kf (f := fun v => AV.int (sl v)) (hv.resolve_left e)
  by_cases hK : v ∈ KR
  · have hgK := getK_kf (f := fun v => AV.int (reg v)) hK
    clear hg3 hg1
    have hg4 : (getK (kf KR fun v => AV.int (reg v)) v).isSome = false → getK (kf KS fun v => AV.int (sl v)) v = some (.int (sl v)) := fun e => by rw [hgK] at e; cases e
    walk_at "my_go"
    · refine RetK.intro (by assumption) fun s' S' => ?_
      have := h ‹Tok› s' S'
      rw [spot, if_pos hK] at this
      exact this
    · exfalso
      have e : (getK (kf KR fun v => AV.int (reg v)) v).isSome = false := by assumption
      rw [hgK] at e; cases e
  · have hgK := hg3 hK
    clear hg3
    walk_at "my_go"
    · exfalso
      have e : (getK (kf KR fun v => AV.int (reg v)) v).isSome = true := by assumption
      rw [isSome_kf, decide_eq_true_eq] at e
      exact hK e
    · refine RetK.intro (by assumption) fun s' S' => ?_
      have := h ‹Tok› s' S'
      rw [spot, if_neg hK] at this
      exact this
end
section
variable {w : World} {A : Around} {z s : Shared} {h₀ : Heap} {L : Addr} {l : List (Str × AV)} {cs : List (Addr × Obj)} {n : Nat}
theorem s_proper {ra : Addr} {ro : Obj} {rows : List Row} {count : Int} {tc : Tok} {Q : Value → Shared → Prop} (C : Cx w A h₀ L (n + 13)) (S : St z h₀ L l cs s)
    (hR : RowsAt cs ra ro rows) (hw : WF rows) (hlen : rows.length ≤ 18) (hk : ∀ r ∈ rows, PyData.strOk r.kind = true) (hc0 : 0 ≤ count)
    (h : ∀ s', St z h₀ L l cs s' → Q (.bool true) s') : WP w A (call (.ref 243) [.ref ra, .int count tc] []) Q s := by
  refine' r_call [("rows", .ref ra), ("count", .int count)] C S ?ho ?hcd ?hbi ?hl ?hbs ?hnd ?_ ?hc ?h1 ?h2 ?h3
  walk_at "my_enter"
  clear C S
  have hR0 := hR
  obtain ⟨mra, as, hLr, hal, hrow⟩ := hR
  have hsl : (tm (spansP rows)).length < 64 := by have := spansN_length rows hw.hwf rows.length; rw [length_tm]; unfold spansP; omega
  have hsl2 : (tm (spansP rows)).length < 100000 := by omega
  walk_at "my_go"
  refine s_times (by assumption) (by assumption) hR0 hw hlen ?_
  intro t to s1 hto S1
  walk_at "my_go"
  rename_i g go s2 hgo hcopy S2 s3 S3 tcc
  have hRg : RowsAt ((g, go) :: (t, to) :: cs) g go rows := ⟨.head _, as, hgo, hal, fun i r hr => by
    obtain ⟨a, o, a1, a2, a3⟩ := hrow i r hr
    exact ⟨a, o, a1, .tail _ (.tail _ a2), a3⟩⟩
  refine s_registers (by assumption) (by assumption) hRg (by omega) hw.hwf hw.hcopy hw.hpos ?_
  intro x dx o ga sa gd sd KR KS reg sl s4 hg2 hgd hsd hres S4
  have hl1 := hres.law1 hw hc0
  clear hres S1 S2 S3 hRg hcopy
  walk_at "my_go"
  rename_i S5
  have hmono : ∀ p ∈ cs, p ∈ (x, instObj 87 dx) :: (dx, o) :: (ga, gd) :: (sa, sd) :: (g, go) :: (t, to) :: cs := fun p hp => .tail _ (.tail _ (.tail _ (.tail _ (.tail _ (.tail _ hp)))))
  have hRg : RowsAt ((x, instObj 87 dx) :: (dx, o) :: (ga, gd) :: (sa, sd) :: (g, go) :: (t, to) :: cs) g go rows := ⟨.tail _ (.tail _ (.tail _ (.tail _ (.head _)))), as, hgo, hal, fun i r hr => by
    obtain ⟨a, o, a1, a2, a3⟩ := hrow i r hr
    exact ⟨a, o, a1, hmono _ a2, a3⟩⟩
  refine r_ne_rows (by assumption) S5 hRg (hR0.mono hmono) hk ?_
  clear S4 hRg hgo
  walk_at "my_go"
  refine r_iter_dict (l := [("rows", .ref ra), ("count", .int count), ("times", .ref t), ("given", .ref g), ("found", .ref x)]) (cs := (x, instObj 87 dx) :: (dx, o) :: (ga, gd) :: (sa, sd) :: (t, to) :: cs) (by assumption) (by walk_at "my_mono") hto
    (fun j l c => l = ([("rows", .ref ra), ("count", .int count), ("times", .ref t), ("given", .ref g), ("found", .ref x)] : List (Str × AV)) ∧ c = (x, instObj 87 dx) :: (dx, o) :: (ga, gd) :: (sa, sd) :: (t, to) :: cs) ⟨rfl, rfl⟩ ?_ ?_ ?_
  · rintro j l c ⟨rfl, rfl⟩; exact .tail _ (.tail _ (.tail _ (.tail _ (.head _))))
  · clear S5
    rintro j v tv l c io I s1 hj ⟨rfl, rfl⟩ S1
    rw [keys_tm] at hj
    have hv := List.mem_of_getElem? hj
    by_cases hK : v ∈ KR
    · have hgK := getK_kf (f := fun v => AV.int (reg v)) hK
      have hno : (getK (kf KS fun v => AV.int (sl v)) v).isSome = false := by rw [isSome_kf, decide_eq_false_iff_not]; exact hl1.not hK
      have hlo := hl1.lo v hK
      have hhi := hl1.hi v hK
      walk_at "my_go"
      all_goals first
        | (exfalso; omega)
        | (exfalso; (have e : ((getK (kf KR fun v => AV.int (reg v)) v).isSome == (getK (kf KS fun v => AV.int (sl v)) v).isSome) = true := by assumption); rw [hgK, hno] at e; cases e)
        | (exfalso; (have e : (getK (kf KR fun v => AV.int (reg v)) v).isSome = false := by assumption); rw [hgK] at e; cases e)
        | exact LoopEnd.next (c := (x, instObj 87 dx) :: (dx, o) :: (ga, gd) :: (sa, sd) :: (t, to) :: cs) (l := [("rows", .ref ra), ("count", .int count), ("times", .ref t), ("given", .ref g), ("found", .ref x)]) (by walk_at "my_mono") ⟨rfl, rfl⟩
    · have hno : (getK (kf KR fun v => AV.int (reg v)) v).isSome = false := by rw [isSome_kf, decide_eq_false_iff_not]; exact hK
      have hys : (getK (kf KS fun v => AV.int (sl v)) v).isSome = true := by rw [isSome_kf, decide_eq_true_eq]; exact (hl1.one hv).resolve_left hK
      have hg4 : (getK (kf KR fun v => AV.int (reg v)) v).isSome = true → getK (kf KR fun v => AV.int (reg v)) v = some (.int (reg v)) := fun e => by rw [hno] at e; cases e
      walk_at "my_go"
      all_goals first
        | (exfalso; (have e : ((getK (kf KR fun v => AV.int (reg v)) v).isSome == (getK (kf KS fun v => AV.int (sl v)) v).isSome) = true := by assumption); rw [hno, hys] at e; cases e)
        | (exfalso; (have e : (getK (kf KR fun v => AV.int (reg v)) v).isSome = true := by assumption); rw [hno] at e; cases e)
        | exact LoopEnd.next (c := (x, instObj 87 dx) :: (dx, o) :: (ga, gd) :: (sa, sd) :: (t, to) :: cs) (l := [("rows", .ref ra), ("count", .int count), ("times", .ref t), ("given", .ref g), ("found", .ref x)]) (by walk_at "my_mono") ⟨rfl, rfl⟩
  · clear S5
    rintro l c s1 ⟨rfl, rfl⟩ S1
    have hKl : (kf KR fun v => AV.int (reg v)).length < 100000 ∧ (kf KS fun v => AV.int (sl v)).length < 100000 := by have := hl1.lens; omega
    obtain ⟨hKl1, hKl2⟩ := hKl
    have hlens := hl1.lens
    walk_at "my_go"
    · exfalso; omega
    · clear S1
      rename_i tk tko s2 htk S2 s3 S3 D od ns s4 hns hperm hpw S4
      clear S2 S3 hpw
      rw [keys_tm] at hperm
      have hnn : ns.Nodup := hperm.nodup_iff.mpr (span_nodup rows _)
      have hnl : ns.length ≤ 18 := by have := hperm.length_eq; have := spansN_length rows hw.hwf rows.length; rw [hperm.length_eq, List.length_map]; unfold spansP; omega
      refine r_iter_list (l := [("rows", .ref ra), ("count", .int count), ("times", .ref t), ("given", .ref g), ("found", .ref x), ("taken", .ref tk)]) (cs := (D, od) :: (tk, tko) :: (x, instObj 87 dx) :: (dx, o) :: (ga, gd) :: (sa, sd) :: (t, to) :: cs) (by assumption) S4 hns
        (fun j l c => ∃ (tko : Obj) (ks : List Int) (m : Int → Nat), DI w tko (kf ks fun q => .int (m q)) ∧ Tk (spansP rows) (spot KR reg sl) (ns.take j) ks m ∧ l = ([("rows", .ref ra), ("count", .int count), ("times", .ref t), ("given", .ref g), ("found", .ref x), ("taken", .ref tk)] : List (Str × AV)) ∧ c = (D, od) :: (tk, tko) :: (x, instObj 87 dx) :: (dx, o) :: (ga, gd) :: (sa, sd) :: (t, to) :: cs) ⟨tko, [], fun _ => 0, htk, Tk.nil, rfl, rfl⟩ ?_ ?_ ?_
      · rintro j l c ⟨tko, ks, m, _, _, rfl, rfl⟩; exact .head _
      · clear S4 htk
        rintro j av vv l c io I s1 hj hvv ⟨tko, ks, m, htk, hT, rfl, rfl⟩ S1
        rw [List.getElem?_map, Option.map_eq_some_iff] at hj
        obtain ⟨v, hj, rfl⟩ := hj
        obtain ⟨tv, rfl⟩ := hvv
        have hv := hperm.mem_iff.mp (List.mem_of_getElem? hj)
        have hfr := take_fresh hnn hj
        have hTk : ∀ u ∈ ns.take j, u ∈ (spansP rows).map (·.1) := fun u hu => hperm.mem_iff.mp (List.mem_of_mem_take hu)
        have hand := hT.and hw hl1 hv hTk hfr
        obtain ⟨m2, hset, hT2⟩ := hT.set hw hv
        have hget := tk_get (ks := ks) (m := m) (q := spot KR reg sl v)
        have hgx : getK (tm (spansP rows)) v = some (.int (mask (lifeOf (spansP rows) v))) := by rw [getK_tm, (hw.life hv).1]; rfl
        have hkl : (kf ks fun q => AV.int (m q)).length < 100000 := by
          have := hT.len
          rw [length_kf]; rw [List.length_take] at this; omega
        walk_at "my_go"
        refine s_where (KR := KR) (KS := KS) (reg := reg) (sl := sl) (by assumption) (by assumption) (by walk_at "my_mem") (by walk_at "my_mem") hg2 (by walk_at "my_mem") (by walk_at "my_mem") hgd hsd (hl1.one hv) ?_
        clear S1
        intro tq s2 S2
        walk_at "my_go"
        · exfalso
          have e : Builtin.bitAnd (cur ks m (spot KR reg sl v)) (mask (lifeOf (spansP rows) v)) ≠ 0 := by assumption
          exact e hand
        · rename_i tko2 s3 htk2 S3
          rw [hset] at htk2
          refine LoopEnd.next (c := (D, od) :: (tk, tko2) :: (x, instObj 87 dx) :: (dx, o) :: (ga, gd) :: (sa, sd) :: (t, to) :: cs) (l := [("rows", .ref ra), ("count", .int count), ("times", .ref t), ("given", .ref g), ("found", .ref x), ("taken", .ref tk)]) (by walk_at "my_mono") ⟨tko2, _, m2, htk2, ?_, rfl, rfl⟩
          rw [List.take_add_one, hj]; exact hT2
      · clear S4 htk
        rintro l c s1 ⟨tko, ks, m, htk, hT, rfl, rfl⟩ S1
        walk_at "my_go"
        refine s_most_alive (by assumption) (by assumption) (hR0.mono fun p hp => ?_) hw hlen (by walk_at "my_mem") hto ?_
        · exact .tail _ (.tail _ (.tail _ (.tail _ (.tail _ (.tail _ (.tail _ hp))))))
        intro mm tm2 s2 hmm S2
        walk_at "my_go"
        rw [hl1.answer hc0 hmm]
        refine RetK.intro (l' := [("rows", .ref ra), ("count", .int count), ("times", .ref t), ("given", .ref g), ("found", .ref x), ("taken", .ref tk)]) (cs' := cs) (by walk_at "my_mono") fun s' S' => ?_
        exact h s' S'
end
section
variable {w : World} {A : Around} {z s : Shared} {h₀ : Heap} {L : Addr} {l : List (Str × AV)} {cs : List (Addr × Obj)} {n : Nat}
theorem s_share {ra : Addr} {ro : Obj} {rows : List Row} {Q : Value → Shared → Prop} (C : Cx w A h₀ L (n + 13)) (S : St z h₀ L l cs s)
    (hR : RowsAt cs ra ro rows) (hw : WF rows) (hlen : rows.length ≤ 18)
    (h : ∀ s', St z h₀ L l cs s' → Q (.bool true) s') : WP w A (call (.ref 250) [.ref ra] []) Q s := by
  refine' r_call [("rows", .ref ra)] C S ?ho ?hcd ?hbi ?hl ?hbs ?hnd ?_ ?hc ?h1 ?h2 ?h3
  walk_at "my_enter"
  clear C S
  have hR0 := hR
  obtain ⟨mra, as, hLr, hal, hrow⟩ := hR
  have hral : (as.map AV.ref).length < 1000 := by rw [List.length_map]; omega
  have hral2 : (as.map AV.ref).length < 1000000 := by omega
  walk_at "my_go"
  refine s_times (by assumption) (by assumption) hR0 hw hlen ?_
  intro t to s1 hto S1
  walk_at "my_go"
  rename_i s0 S0 g go s2 hgo hcopy S2 t1 s3 S3 t2 s4 S4 t3 s5 S5
  clear S0 S2 S3 S4 hcopy
  have hRg : RowsAt ((g, go) :: (t, to) :: cs) g go rows := ⟨.head _, as, hgo, hal, fun i r hr => by
    obtain ⟨a, o, a1, a2, a3⟩ := hrow i r hr
    exact ⟨a, o, a1, .tail _ (.tail _ a2), a3⟩⟩
  refine s_registers (by assumption) (by assumption) hRg (by omega) hw.hwf hw.hcopy hw.hpos ?_
  intro x dx o ga sa gd sd KR KS reg sl s4 hg2 hgd hsd hres S4
  rw [List.length_map, hal] at hres
  clear hRg S5
  walk_at "my_go"
  rename_i s1 S1 sda sdo s2 hsdo S2 s3 S3
  clear S1 S2 S4
  refine r_iter_rows (l := [("rows", .ref ra), ("times", .ref t), ("found", .ref x), ("sides", .ref sda)]) (cs := (sda, sdo) :: (x, instObj 87 dx) :: (dx, o) :: (ga, gd) :: (sa, sd) :: (t, to) :: cs) (by assumption) (by walk_at "my_mono") hLr
    (fun i l c => ∃ sdo : Obj, LI sdo ((sides (rows.take i)).map .int) ∧ l = ([("rows", .ref ra), ("times", .ref t), ("found", .ref x), ("sides", .ref sda)] : List (Str × AV)) ∧ c = (sda, sdo) :: (x, instObj 87 dx) :: (dx, o) :: (ga, gd) :: (sa, sd) :: (t, to) :: cs) ⟨sdo, hsdo, rfl, rfl⟩ ?_ ?_ ?_
  · rintro i l c ⟨sdo, _, rfl, rfl⟩; exact .tail _ (.tail _ (.tail _ (.tail _ (.tail _ (.tail _ mra)))))
  · clear S3 hsdo
    rintro i a l c io I s1 ha ⟨sdo, hsdo, rfl, rfl⟩ S1
    obtain ⟨r, hr⟩ : ∃ r, rows[i]? = some r := by
      have := lt_of_get ha
      exact ⟨rows[i]'(by omega), List.getElem?_eq_getElem _⟩
    obtain ⟨a', ao, ha', hmem, ho⟩ := hrow i r hr
    rw [ha] at ha'
    cases ha'
    have hi18 : i < 18 := by have := lt_of_get hr; omega
    have hsl := sides_len (rows := rows) i
    have hsl1 : ((sides (rows.take i)).map AV.int).length < 100000 := by rw [List.length_map]; omega
    have hsl2 : ((sides (rows.take i)).map AV.int ++ [AV.int r.name]).length < 100000 := by rw [List.length_append, List.length_map, List.length_singleton]; omega
    walk_at "my_go"
    · rename_i sdo2 s3 hsdo2 S3
      have hk : (r.kind == "copy") = true := by assumption
      refine LoopEnd.next (c := (sda, sdo2) :: (x, instObj 87 dx) :: (dx, o) :: (ga, gd) :: (sa, sd) :: (t, to) :: cs) (l := [("rows", .ref ra), ("times", .ref t), ("found", .ref x), ("sides", .ref sda)]) (by walk_at "my_mono") ⟨sdo2, ?_, rfl, rfl⟩
      rw [sides_take hr, List.map_append, sidesOf, if_pos hk]
      simpa using hsdo2
    · have hk : (r.kind == "copy") = false := by assumption
      refine LoopEnd.next (c := (sda, sdo) :: (x, instObj 87 dx) :: (dx, o) :: (ga, gd) :: (sa, sd) :: (t, to) :: cs) (l := [("rows", .ref ra), ("times", .ref t), ("found", .ref x), ("sides", .ref sda)]) (by walk_at "my_mono") ⟨sdo, ?_, rfl, rfl⟩
      rw [sides_take hr, sidesOf, if_neg (by rw [hk]; decide), List.append_nil]
      exact hsdo
  · clear S3 hsdo
    rintro l c s1 ⟨sdo, hsdo, rfl, rfl⟩ S1
    rw [hal, List.take_length] at hsdo
    walk_at "my_go"
    refine r_iter_rows (l := [("rows", .ref ra), ("times", .ref t), ("found", .ref x), ("sides", .ref sda)]) (cs := (sda, sdo) :: (x, instObj 87 dx) :: (dx, o) :: (ga, gd) :: (sa, sd) :: (t, to) :: cs) (by assumption) (by walk_at "my_mono") hLr
      (fun i l c => l = ([("rows", .ref ra), ("times", .ref t), ("found", .ref x), ("sides", .ref sda)] : List (Str × AV)) ∧ c = (sda, sdo) :: (x, instObj 87 dx) :: (dx, o) :: (ga, gd) :: (sa, sd) :: (t, to) :: cs) ⟨rfl, rfl⟩ ?_ ?_ ?_
    · rintro i l c ⟨rfl, rfl⟩; exact .tail _ (.tail _ (.tail _ (.tail _ (.tail _ (.tail _ mra)))))
    · clear S1
      rintro i a l c io I s1 ha ⟨rfl, rfl⟩ S1
      obtain ⟨r, hr⟩ : ∃ r, rows[i]? = some r := by
        have := lt_of_get ha
        exact ⟨rows[i]'(by omega), List.getElem?_eq_getElem _⟩
      obtain ⟨a', ao, ha', hmem, ho⟩ := hrow i r hr
      rw [ha] at ha'
      cases ha'
      have hlaw := share_law hres hw hr
      have htimes := times_get hw hr
      have hregs : (r.kind == "copy") = true → Builtin.bitAnd (mask (lifeOf (spansP rows) r.name)) (mask (lifeOf (spansP rows) r.left)) = 0 → (((sides rows).count r.name : Nat) : Int) = 1 → (((sides rows).count r.left : Nat) : Int) = 1 →
          getK (kf KR fun v => AV.int (reg v)) r.name = some (.int (reg r.name)) ∧ getK (kf KR fun v => AV.int (reg v)) r.left = some (.int (reg r.left)) := fun h1 h2 h3 h4 => by
        obtain ⟨k1, k2, _⟩ := hlaw h1 h2 h3 h4
        exact ⟨getK_kf (f := fun v => AV.int (reg v)) k1, getK_kf (f := fun v => AV.int (reg v)) k2⟩
      clear hres
      walk_at "my_go"
      all_goals first
        | exact LoopEnd.next (c := (sda, sdo) :: (x, instObj 87 dx) :: (dx, o) :: (ga, gd) :: (sa, sd) :: (t, to) :: cs) (l := [("rows", .ref ra), ("times", .ref t), ("found", .ref x), ("sides", .ref sda)]) (by walk_at "my_mono") ⟨rfl, rfl⟩
        | (exfalso; rename_i e; exact e (hlaw (by assumption) (by assumption) (by assumption) (by assumption)).2.2)
    · clear S1
      rintro l c s1 ⟨rfl, rfl⟩ S1
      walk_at "my_go"
      refine RetK.intro (l' := [("rows", .ref ra), ("times", .ref t), ("found", .ref x), ("sides", .ref sda)]) (cs' := cs) (by walk_at "my_mono") fun s' S' => ?_
      exact h s' S'
end
local macro_rules | `(tactic| walk_at "ite") => `(tactic| first | with_reducible refine ite_n not_nt ?_ | with_reducible refine ite_n not_ft ?_ | with_reducible refine ite_n not_false ?_)
local macro_rules | `(tactic| walk_at "eval Dict") => `(tactic| (refine' r_state ?C ?S ?_; (case C => with_reducible assumption); (case S => with_reducible assumption); intro _ _ _))
local macro_rules | `(tactic| walk_at "call type:list") => `(tactic| k_dflt (refine' r_list_arg ?C ?S ?hl ?hv ?n ?_; (case C => with_reducible assumption); (case S => with_reducible assumption); (case hl => with_reducible assumption); (case hv => with_reducible assumption); (case n => omega); intro _ _ _ _ _))
local macro_rules | `(tactic| walk_at "subscriptTail") => `(tactic| ((with_reducible show wpAny _ _ (subscriptTail _ (PySem.Expr.Slice _ _ none _) (Value.ref _) (Value.ref _)) _ _ _); k_dflt (refine' kba_turn (value' := PySem.Expr.Name (PySem.Str.ofString "_") ⟨0, 0, 0, 0⟩) (fun _ => rfl) ?_); k_dflt (refine' r_slice ?C ?S ?ha ?hoa ?n ?h0 ?h1 ?_ ?s ?t; (case C => with_reducible assumption); (case S => with_reducible assumption); (case ha => walk_at "my_mem"); (case hoa => with_reducible assumption); (case n => ((try simp only [List.length_append, List.length_map, List.length_cons, List.length_nil]); omega)); (case h0 => decide); (case h1 => decide); (case s => with_unfolding_all rfl); (case t => (intro _; with_unfolding_all rfl)); intro _ _ _ _ _)))
local macro_rules | `(tactic| k_qdec) => `(tactic| decide +kernel)
set_option maxHeartbeats 4000000 in
theorem top : PySem.Challenge.rw_on0210_01.Holds := hd (by
  k_go0
  rename_i xs hs hlay0 hL1 hr1 hl2 as4 as3 d vs as hL ra w1 r0 hI hr hc hc' K0 hD h₁ F N0
  rename Top _ _ _ _ _ _ => T
  rename Frag.In _ _ => KX
  rename Shared => s₁
  rename s₁.gens = #[] => hg
  with_reducible refine top_wp PySem.Challenge.rw_on0210_01 hg ?_
  have hn : xs.length < 900 := by omega
  have hT := topRead_of T
  have hv := AVs.ofInts hI
  have hxl : (xs.map AV.int).length < 900 := by rw [List.length_map]; exact hn
  clear hs hlay0 hL1 hr1 hl2 ra w1 r0 hr hc hc' N0 hD hI
  dsimp only
  with_reducible refine r_start2 (z := s₁) (a := d) KX hT K0 F ?i1 ?i2 ?i3 ?i4 ?_
  case i1 => exact rfl
  case i2 => exact rfl
  case i3 => exact rfl
  case i4 => exact rfl
  clear K0 hg F hT KX T
  rename_i G Y fa o pm doc kV ho X V GL B TE TW ma mo M c1 c2 hcd
  clear G Y ho X V GL B TE TW M hcd o ma mo pm doc kV
  intro A' s C S
  walk_at "my_go"
  rename_i D _ _ _ _ _ _ _ _ _ _ _ _ _ _ _ _ _ _ _ _ _ _ _ c co sx hco S1
  rw [show (40 : Int).toNat = 40 from rfl, cells_eq] at hco
  have S2 : St s₁ s₁.heap s₁.heap.objs.size [("script", .ref d)] [(D, emptyDict), (c, co)] sx := by walk_at "my_mono"
  clear S1
  refine ⟨_, _, _, c, rfl, At.head, S2, ?_⟩
  clear S2
  intro so s2 hso S2
  have hso := sa_start hso
  walk_at "my_go"
  refine s_rows (n := 56) (l := [("script", .ref d), ("state", .ref D)]) (cs := [(c, co)]) C (by walk_at "my_mono") hso List.mem_cons_self hco (cells_ne xs) (cells_len xs) ?_
  clear S2 hso
  intro so1 at1 rest1 ra ro tc rows s3 hso1 ha0 ha1 hr1 hR hw hlen S3
  walk_at "my_go"
  refine s_draw (n := 58) (l := [("script", .ref d), ("state", .ref D), ("rows", .ref ra)]) (cs := (ra, ro) :: (tc ++ [(c, co)])) C (by walk_at "my_mono") hso1 (.tail _ (List.mem_append_right _ List.mem_cons_self)) hco (cells_ne xs) (cells_len xs) ha0 (by omega) hr1 (by omega) (by omega) ?_
  clear S3 hso1
  intro cnt tcnt so2 at2 rest2 s4 hc0 _ _ _ _ _ S4
  have hR2 : RowsAt ((D, so2) :: (ra, ro) :: (tc ++ [(c, co)])) ra ro rows := hR.mono fun p hp => by
    rcases List.mem_cons.mp hp with rfl | hp
    · exact .tail _ (.head _)
    · exact .tail _ (.tail _ (List.mem_append_left _ hp))
  walk_at "my_go"
  refine s_proper (n := 47) C S4 hR2 hw hlen hw.strs hc0 ?_
  clear S4
  intro s5 S5
  walk_at "my_go"
  refine s_share (n := 47) C S5 hR2 hw hlen ?_
  clear S5
  intro s6 S6
  iterate 86 (walk_at "my_step")
  with_reducible refine r_For ?_ ?hs
  case hs => intro _; with_unfolding_all rfl
  walk_at "my_go"
  rename TI _ [.str "in", .int 2, .int 0, .int 0] => h1
  rename TI _ [.str "copy", .int 5, .int 2, .int 0] => h2
  rename TI _ [.str "in", .int 9, .int 1, .int 0] => h3
  rename TI _ [.str "xor", .int 4, .int 5, .int 9] => h4
  rename TI _ [.str "xor", .int 7, .int 4, .int 5] => h5
  rename TI _ [.str "out", .int 0, .int 7, .int 0] => h6
  rename LI _ [_, _, _, _, _, _] => hfo
  rename_i t1 o1 _ _ _ _ _ _ _ _ _ _ _ _ _ _ t2 o2 _ _ _ _ _ _ _ _ _ _ _ _ _ _ t3 o3 _ _ _ _ _ _ _ _ _ _ _ _ _ _ t4 o4 _ _ _ _ _ _ _ _ _ _ _ _ _ _ t5 o5 _ _ _ _ _ _ _ _ _ _ _ _ _ _ t6 o6 _ _ fx fo _ _ s7 S7 _ _ _ rg rgo s9 hrg S9
  have hRf : RowsAt [(fx, fo), (t1, o1), (t2, o2), (t3, o3), (t4, o4), (t5, o5), (t6, o6)] fx fo fixedRows :=
    fixed_rows List.mem_cons_self hfo (by walk_at "my_mem") (by walk_at "my_mem") (by walk_at "my_mem") (by walk_at "my_mem") (by walk_at "my_mem") (by walk_at "my_mem") h1 h2 h3 h4 h5 h6
  have S8 : St s₁ s₁.heap s₁.heap.objs.size [("script", .ref d), ("state", .ref D), ("rows", .ref ra), ("fixed", .ref fx)] [(fx, fo), (t1, o1), (t2, o2), (t3, o3), (t4, o4), (t5, o5), (t6, o6)] s7 := by walk_at "my_mono"
  clear S7 h1 h2 h3 h4 h5 h6 hfo hR hR2 hw
  refine r_iter_range (l := [("script", .ref d), ("state", .ref D), ("rows", .ref ra), ("fixed", .ref fx)]) (cs := [(fx, fo), (t1, o1), (t2, o2), (t3, o3), (t4, o4), (t5, o5), (t6, o6)]) C S9 List.mem_cons_self hrg (by decide) (by decide) (by walk_at "my_mono")
    (fun i l cc => l = ([("script", .ref d), ("state", .ref D), ("rows", .ref ra), ("fixed", .ref fx)] : List (Str × AV)) ∧ cc = [(fx, fo), (t1, o1), (t2, o2), (t3, o3), (t4, o4), (t5, o5), (t6, o6)]) ⟨rfl, rfl⟩ ?_ ?_
  · clear S8 S9 S6
    rintro i t l cc io I sA hi ⟨rfl, rfl⟩ SA
    walk_at "my_go"
    refine s_proper (n := 47) C (by assumption) (hRf.mono fun p hp => .tail _ hp) fixed_wf (by decide) fixed_wf.strs (Int.natCast_nonneg i) ?_
    intro sB SB
    walk_at "my_go"
    exact LoopEnd.next (c := [(fx, fo), (t1, o1), (t2, o2), (t3, o3), (t4, o4), (t5, o5), (t6, o6)]) (l := [("script", .ref d), ("state", .ref D), ("rows", .ref ra), ("fixed", .ref fx)]) (by walk_at "my_mono") ⟨rfl, rfl⟩
  · clear S8 S9 S6
    rintro l cc sA ⟨rfl, rfl⟩ SA
    walk_at "my_go"
    refine s_share (n := 47) C (by assumption) hRf fixed_wf (by decide) ?_
    intro sB SB
    walk_at "my_go"
    exact TopK.intro SB)
end Mine
theorem PySem.Challenge.cw_on0210_01_holds : PySem.Challenge.rw_on0210_01.Holds :=
  Mine.top
