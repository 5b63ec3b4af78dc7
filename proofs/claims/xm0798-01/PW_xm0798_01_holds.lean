import PyProof.Rows.All
import Wide.All
import OpenK.AllK
import Wide.FinOn
import Lean
import PySem.Challenge.RW_xm0798_01

set_option Elab.async false
set_option maxRecDepth 100000
set_option maxHeartbeats 8000000

section HDPart
open PySem PySem.W PyProof.Rows
namespace Mine
open_top hd for PySem.Challenge.rw_xm0798_01
end Mine
end HDPart

section S1Part
open PySem PySem.W PySem.Calls PyProof.Rows
namespace Mine

theorem groundP {A₀ A : Around} {s : Shared} {base h₀ : Heap} {outer : List Env} {L : Addr} {m : Str → Option Value} {env : Env} {news : List (Addr × Obj)}
    (B : Below A₀ base outer h₀) (F : Fr h₀ L s.heap m) (N : News h₀ L s.heap news) (hA : A.frames = some (env :: outer)) (hf : env.frame = some L) (hke : env.scope.kind = .function) :
    Below A base (env :: outer) (hideAll s.heap (news.map (·.1))) ∧ h₀.StaysIn (hideAll s.heap (news.map (·.1))) := by
  have h := groundX (R := fun _ _ => True) B F N hA hf hke
  exact ⟨h.2.1, h.2.2.1⟩

/-- a def entered: all that stands in no part of `news` is held as it is -/
theorem code_part {prog : Program} {w : World} {A₀ A : Around} {s : Shared} {base h₀ : Heap} {outer : List Env} {L : Addr} {m : Str → Option Value} {env : Env} {news : List (Addr × Obj)} {K : Frag}
    {p : Program} {loose : List Str} {mean : ExcName → Option Value} {mg mb : Str → Option Value} {R : Result → Shared → Prop} {name qual : Str} {params : Arguments} {body : List Stmt} {scope : Scope}
    {dV kV doc pm cdv ct oc : Value} {an od : Option Addr} {osl : Array (Option Value)} {f : Addr} {args : Args} {binds : List (Str × Value)}
    (B : Below A₀ base outer h₀) (F : Fr h₀ L s.heap m) (X₀ : K.In h₀) (N : News h₀ L s.heap news) (T : Top p loose mean mg mb h₀) (hA : A.frames = some (env :: outer)) (hf : env.frame = some L) (hke : env.scope.kind = .function)
    (ho : K.lookup f = some ⟨oc, od, .func (fnOf name qual params body scope dV kV doc pm an cdv ct), osl⟩) (hcd : codeIn K cdv qual = true) (hroom : A.depth < recursionLimit)
    (hbind : BindsTo s (fnOf name qual params body scope dV kV doc pm an cdv ct) args binds) (hloc : ∀ y ∈ binds, scope.names.lookup y.1 = some .local)
    (h : ∀ g L' h₁, (∀ b o, s.heap.get? b = some o → b ∉ news.map (·.1) → g.get? b = some o) → (∀ b o, g.get? b = some o → s.heap.get? b = some o) → Fr g L' h₁ (fun y => binds.reverse.lookup y) → News g L' h₁ news → Below A base (env :: outer) g → K.In g → Top p loose mean mg mb g →
      wpAny (model prog w) (A.deeper (envOf qual scope L' f cdv)) (execs body (envOf qual scope L' f cdv))
        (fun fl s' => R (.ok (.ret (match fl with | .ret v => v | _ => .none))) s')
        (fun e s' => wpAny (model prog w) (A.deeper (envOf qual scope L' f cdv)) (leaving (envOf qual scope L' f cdv) e) (fun _ s'' => R (.error e) s'') (fun e' s'' => R (.error e') s'') s')
        { s with heap := h₁, toks := s.toks + binds.length })
    (hco : scope.isCoroutine = false) (hgen : scope.isGenerator = false) (hk : scope.kind = .function)
    (hcell : ∀ x ∈ scope.names, x.2 ≠ .cell) : codeAny (model prog w) A (.call (.ref f) args) R s := by
  obtain ⟨BG, st⟩ := groundP B F N hA hf hke
  have X := X₀.keeps F.keep
  refine codeAny_call_def (fd := fnOf name qual params body scope dV kV doc pm an cdv ct) (body := body) (binds := binds) hroom (X _ _ ho) rfl (T.nolimit.keeps F.keep) (codeRec_of X hcd) rfl hbind hcell hloc (fun h₁ hns hk₁ => ?_) hco hgen hk
  exact h _ s.heap.objs.size h₁ (fun b o e hb => hideAll_get _ e hb) (fun b o e => of_hideAll _ e) ⟨hns, fun b o e => hk₁ b o (of_hideAll _ e), Nat.le_of_eq (hideAll_size _ _)⟩
    (fun p hp => ⟨hk₁ _ _ (N p hp).1, Nat.ne_of_lt (Heap.lt_size (N p hp).1), hideAll_none _ (List.mem_map_of_mem hp)⟩) BG (X₀.keeps st) (T.keeps st)


def Kept (hide : List Addr) (h h' : Heap) : Prop := ∀ b o, h.get? b = some o → b ∉ hide → h'.get? b = some o

theorem warm : PySem.Challenge.rw_xm0798_01 = PySem.Challenge.rw_xm0798_01 ∧ hd.heap_39 = hd.heap_39 := by
  k_fill
  exact ⟨rfl, rfl⟩

def ShellPost (s : Shared) (R : Addr) (x k : Int) (Q : Value → Shared → Prop) : Prop :=
  ∀ (r : Int) (tr : Tok) (x' y' : Int) (tx' ty' : Tok) (n' : Nat) (h' : Heap) (tk' : Nat), Kept [R] s.heap h' → h'.get? R = some (listOf #[.int x' tx', .int y' ty'] n') → 0 ≤ r → r < k → 0 ≤ x' → x' ≤ x → 0 ≤ y' → y' < 70000 →
    Q (.int r tr) { s with heap := h', toks := tk' }

def ShellC (w : World) (mean : ExcName → Option Value) (mg mb : Str → Option Value) : Prop :=
  ∀ (dp un : Nat) (gd : Option (List Code)) (cn : Str) (cs : Scope) (a : Addr) (ccd : Value) (cl : List (Str × Addr)) (outer : List Env) (A₀ : Around) (base h₀ : Heap) (L : Addr) (m : Str → Option Value) (s : Shared) (Q E : Value → Shared → Prop)
    (R : Addr) (x y k : Int) (tx ty tk : Tok) (n : Nat),
    Below A₀ base outer h₀ → Fr h₀ L s.heap m → (hd.heap_39 w.params).In h₀ → News h₀ L s.heap [(R, listOf #[.int x tx, .int y ty] n)] → Top hd.view_39 (looseW hd.view_39 []) mean mg mb h₀ → cs.kind = .function →
    0 ≤ x → 0 ≤ y → y < 70000 → 0 < k → k < 1000 → dp + 1 < recursionLimit → un + 8 < cLine → ShellPost s R x k Q →
    wpAny (model PySem.Challenge.rw_xm0798_01.row.prog w) (ktrTop dp un gd cn cs L a ccd cl outer) (call (.ref 79) [.ref R, .int k tk]) Q E s



theorem shell_end {s : Shared} {R : Addr} {x k : Int} {Q : Value → Shared → Prop} (hret : ShellPost s R x k Q) {g' h' : Heap} {L' : Addr} {m' : Str → Option Value} {r x' y' : Int} {tr tx' ty' : Tok} {n' tk' : Nat}
    (hK : ∀ b o, s.heap.get? b = some o → b ∉ [R] → g'.get? b = some o) (F : Fr g' L' h' m') (N : News g' L' h' [(R, listOf #[.int x' tx', .int y' ty'] n')])
    (h1 : 0 ≤ r ∧ r < k ∧ 0 ≤ x' ∧ x' ≤ x ∧ 0 ≤ y' ∧ y' < 70000) : Q (.int r tr) { s with heap := h', toks := tk' } :=
  hret r tr x' y' tx' ty' n' h' tk' (fun b o e hb => F.keep b o (hK b o e hb)) (N _ (.head _)).1 h1.1 h1.2.1 h1.2.2.1 h1.2.2.2.1 h1.2.2.2.2.1 h1.2.2.2.2.2


theorem shellC {w : World} {mean : ExcName → Option Value} {mg mb : Str → Option Value} : ShellC w mean mg mb := by
  unfold ShellC
  intro dp un gd cn cs a ccd cl outer A₀ base h₀ L m s Q E R x y k tx ty tk n B F X N T hcs hx hy hy2 hk hk2 hdp hun hret
  refine wpAny_call ?_
  k_dflt (refine' code_part ?k1 ?k2 ?k3 ?k4 ?k5 ?kA ?kF ?kK ?k6 ?k7 ?k8 ?k9 ?kB ?_ ?c2 ?c3 ?c4 ?c5; (case kA => exact rfl); (case kF => exact rfl); (case kK => assumption); (case k1 => k_asm); (case k2 => k_asm); (case k3 => k_asm); (case k4 => k_asm); (case k5 => k_asm); (case k6 => k_is); (case k7 => k_is); (case k8 => ktr_room); (case k9 => exact BindsTo.of_eq rfl); (case c5 => decide); (case kB => exact locs rfl); (case c2 => exact rfl); (case c3 => exact rfl); (case c4 => exact rfl); k_whole; intro g' L' h' hK1 hK2 F' N' B' X' T'; (try dsimp only); (try k_fold))
  k_steps
  all_goals
    rename News _ _ _ _ => NN
    rename Fr _ _ _ _ => FF
    rename (∀ b o, s.heap.get? b = some o → _ → _) => hK
    with_unfolding_all refine shell_end hret hK FF NN ?_
    clear NN FF hK
  · show 0 ≤ Int.fmod x k ∧ Int.fmod x k < k ∧ 0 ≤ Int.fdiv x k ∧ Int.fdiv x k ≤ x ∧ 0 ≤ y ∧ y < 70000
    rw [Int.fmod_eq_emod_of_nonneg _ (by omega), Int.fdiv_eq_ediv_of_nonneg _ (by omega)]
    exact ⟨Int.emod_nonneg _ (by omega), Int.emod_lt_of_pos _ hk, Int.ediv_nonneg hx (by omega), Int.ediv_le_self _ hx, hy, hy2⟩
  · show 0 ≤ Int.fmod (Int.fdiv (Int.fmod (y * 193 + 4999) 65287) 7) k ∧ Int.fmod (Int.fdiv (Int.fmod (y * 193 + 4999) 65287) 7) k < k ∧ 0 ≤ x ∧ x ≤ x ∧ 0 ≤ Int.fmod (y * 193 + 4999) 65287 ∧ Int.fmod (y * 193 + 4999) 65287 < 70000
    rw [Int.fmod_eq_emod_of_nonneg _ (Int.le_of_lt hk), Int.fmod_eq_emod_of_nonneg _ (by omega)]
    exact ⟨Int.emod_nonneg _ (by omega), Int.emod_lt_of_pos _ hk, hx, Int.le_refl _, by omega, by omega⟩

end Mine
end S1Part

section L1Part
open PySem PySem.W PySem.Calls PyProof.Rows
namespace Mine
open Builtin

theorem slot_lstrip : Slot "bytes" "lstrip" "bytes.lstrip" :=
  .of (owner := "bytes") (n := "lstrip") (by rw [typeLookup_type, builtinLookup_eq_fast]; kernel_rfl) (by decide +kernel) (by decide +kernel) (by decide +kernel)
    (by first | exact .inl (by decide +kernel) | exact .inr (by decide +kernel)) (by rw [isSubtype_type]; kernel_rfl)
theorem type_lstrip : typeOf (.builtin "bytes.lstrip") = pure (.type "method_descriptor") := by show builtinType _ = _; rw [builtinType_eq_fast]; kernel_rfl
theorem entry_lstrip : entryFor table "bytes.lstrip" = some Builtin.«bytes.lstrip» := entryFor_of_tree (by kernel_rfl)
theorem args_lstrip (a b : Value) : argsOk "bytes.lstrip" ⟨[a, b], []⟩ := by
  unfold argsOk; rw [signature?_of (id := "bytes.lstrip") (n := ['p', 'i', 'r', 't', 's', 'l']) (o := ['s', 'e', 't', 'y', 'b']) (by kernel_rfl) PySem.W.FB.owner_bytes]; kernel_rfl

theorem dropWhile_same {α : Type} {p : α → Bool} : ∀ {l : List α}, (l.dropWhile p).length = l.length → l.dropWhile p = l
  | [], _ => rfl
  | x :: r, h => by
    rw [List.dropWhile_cons] at h ⊢
    split
    · rename_i hp
      rw [if_pos hp] at h
      have := (List.dropWhile_sublist p (l := r)).length_le
      rw [List.length_cons] at h; omega
    · rfl

theorem meets_lstrip (b c : Array UInt8) (t u : Tok) :
    Meets («bytes.lstrip» ⟨[.bytes b t, .bytes c u], []⟩) (fun _ R s => b.size ≤ sizeLine ∧ ∀ t' k, R (.ok (.ret (.bytes (b.toList.dropWhile c.contains).toArray t'))) { s with toks := k }) := by
  refine .of_wp fun prog w A R s hS => ?_
  obtain ⟨hsz, h⟩ := hS
  unfold Builtin.«bytes.lstrip» Bytes.stripM
  refine wpAny_bind (wpAny_of_eq (a := (Value.bytes b t, [Value.bytes c u])) rfl ?_)
  show wpAny _ _ (Bytes.bytesLike _ (Value.bytes c u) >>= fun set => _) _ _ s
  rw [KBd.like_eq]
  refine wpAny_bind (wpAny_of_eq (a := c) rfl ?_)
  refine wpAny_bind (wpAny_of_eq (a := c.contains) rfl ?_)
  refine wpAny_bind (wpAny_of_eq (a := b) rfl ?_)
  show wpAny _ _ (if ((b.toList.dropWhile c.contains).length == b.size) = true then _ else _) _ _ s
  split
  · rename_i hl
    have e : (b.toList.dropWhile c.contains) = b.toList := dropWhile_same (by rw [beq_iff_eq] at hl; rw [hl, Array.length_toList])
    refine wpAny_bind (wpAny_rule ?_)
    refine wpAny_bind (wpAny_bind (wpAny_typeOf (typeIs_bytes _ b t) ?_))
    rw [if_pos (by rfl)]
    refine wpAny_pure (wpAny_pure ⟨_, rfl, ?_⟩)
    have h' := h t s.toks
    rw [e, Array.toArray_toList] at h'
    exact h'
  · exact wpAny_bind (wpAny_mkBytes (wpAny_pure ⟨_, rfl, h _ _⟩) (Nat.le_trans (by rw [List.size_toArray]; exact Nat.le_trans (List.dropWhile_sublist _).length_le (by rw [Array.length_toList]; exact Nat.le_refl _)) hsz))

end Mine
namespace Mine
open KBw
theorem ints_dropFF (b : Array UInt8) : bInts (b.toList.dropWhile (#[255] : Array UInt8).contains).toArray = (bInts b).dropWhile (fun k => k == 255) := by
  rw [ints_list]
  show _ = (b.toList.map fun c => (c.toNat : Int)).dropWhile _
  rw [List.dropWhile_map]
  congr 1
  congr 1
  funext c
  show (#[255] : Array UInt8).contains c = (((c.toNat : Nat) : Int) == 255)
  have : (#[255] : Array UInt8).contains c = (c == 255) := by simp [Array.contains]
  rw [this]
  by_cases h : c = 255
  · subst h; rfl
  · have h2 : ¬ ((c.toNat : Nat) : Int) = 255 := fun e => h (UInt8.toNat_inj.mp (by show c.toNat = 255; omega))
    rw [beq_eq_false_iff_ne.mpr h]; exact (beq_eq_false_iff_ne.mpr h2).symm

section
variable {prog : Program} {w : World} {A : Around} {E : Value → Shared → Prop} {s : Shared} {b : Array UInt8} {t u : Tok} {ks : List Int}
theorem lstrip_K {Q : Value → Shared → Prop} (hk : bInts b = ks) (hsz : ks.length ≤ 1000)
    (h : ∀ (b' : Array UInt8) (rs : List Int) t' k, bInts b' = rs → rs = ks.dropWhile (fun k => k == 255) → rs.length ≤ 1000 → Q (.bytes b' t') { s with toks := k }) :
    wpAny (model prog w) A (call (.builtin "bytes.lstrip") [.bytes b t, .bytes #[255] u]) Q E s :=
  call_meets slot_lstrip (typeIs_bytes _ _ _) entry_lstrip (args_lstrip _ _) (meets_lstrip b #[255] t u)
    ⟨by rw [← ints_length, hk, sizeLine_eq]; omega, fun t' k => h _ _ t' k (by rw [ints_dropFF, hk]) rfl (Nat.le_trans (List.dropWhile_sublist _).length_le hsz)⟩
theorem lstrip_method {M : Model} {pl : Sem Bool} {Q : Value × List Value → Shared → Prop} (h : Q (.builtin "bytes.lstrip", [.bytes b t]) s) : wpAny M A (getMethod (.bytes b t) "lstrip" pl) Q E s := by
  with_reducible exact KBd.method_of (.bytes b t) (typeIs_bytes _ _ _) slot_lstrip type_lstrip KBd.noRef h
theorem toList_eq_iff {b c : Array UInt8} {ks ls : List Int} (hb : bInts b = ks) (hc : bInts c = ls) : (b.toList == c.toList) = decide (ks = ls) := by
  subst hb hc
  have inj : ∀ x y : UInt8, ((x.toNat : Nat) : Int) = ((y.toNat : Nat) : Int) → x = y := fun x y h => UInt8.toNat_inj.mp (by omega)
  have key : ∀ l r : List UInt8, (l.map fun c => ((c.toNat : Nat) : Int)) = (r.map fun c => ((c.toNat : Nat) : Int)) → l = r := fun l => by
    induction l with
    | nil => intro r h; cases r with | nil => rfl | cons _ _ => simp at h
    | cons x l ih => intro r h; cases r with
      | nil => simp at h
      | cons y r => simp only [List.map_cons, List.cons.injEq] at h; rw [inj x y h.1, ih r h.2]
  by_cases h : b.toList = c.toList
  · have h2 : bInts b = bInts c := by unfold bInts; rw [h]
    rw [beq_iff_eq.mpr h, decide_eq_true h2]
  · have h2 : ¬ bInts b = bInts c := fun e => h (key _ _ e)
    rw [beq_eq_false_iff_ne.mpr h, decide_eq_false h2]
theorem eq_K {c : Array UInt8} {ls : List Int} {Q : Value → Shared → Prop} (hb : bInts b = ks) (hc : bInts c = ls) (h : Q (.bool (decide (ks = ls))) s) : wpAny (model prog w) A (compareOp .Eq (.bytes b t) (.bytes c u)) Q E s :=
  eq_bytes (by rw [toList_eq_iff hb hc]; exact h)
theorem eq_E {Q : Value → Shared → Prop} (hb : bInts b = ks) (h : Q (.bool (decide (ks.length = 0))) s) : wpAny (model prog w) A (compareOp .Eq (.bytes b t) (.bytes #[] u)) Q E s :=
  eq_K (ls := []) hb rfl (by rw [show decide (ks = []) = decide (ks.length = 0) from by simp [List.length_eq_zero_iff]]; exact h)
theorem ne_E {Q : Value → Shared → Prop} (hb : bInts b = ks) (h : Q (.bool (decide (¬ ks.length = 0))) s) : wpAny (model prog w) A (compareOp .NotEq (.bytes b t) (.bytes #[] u)) Q E s :=
  ne_bytes (by rw [bne, toList_eq_iff (ls := []) hb rfl, show (!decide (ks = [])) = decide (¬ ks.length = 0) from by simp [List.length_eq_zero_iff]]; exact h)
end
end Mine
end L1Part

section P1Part
open PySem PySem.W PySem.Calls PyProof.Rows
namespace Mine
inductive Ans where
  | cut
  | marker
  | code (c p : Int)
def ansOf (ks : List Int) (k : Int) : Ans :=
  if (ks.drop k.toNat).dropWhile (fun k => k == 255) = [] then .cut
  else if (ks.drop k.toNat).dropWhile (fun k => k == 255) = ks.drop k.toNat ∨ ((ks.drop k.toNat).dropWhile (fun k => k == 255)).getD 0 0 = 0 then .marker
  else .code (((ks.drop k.toNat).dropWhile (fun k => k == 255)).getD 0 0) (k + (ks.drop k.toNat).length - ((ks.drop k.toNat).dropWhile (fun k => k == 255)).length + 1)
def AnsAt (h h' : Heap) (v : Value) : Ans → Prop
  | .cut => ∃ t, v = .str (Str.ofString "cut") t
  | .marker => ∃ t, v = .str (Str.ofString "marker") t
  | .code c p => ∃ a t1 t2, v = .ref a ∧ h.get? a = none ∧ h'.get? a = some { cls := .type "tuple", data := .seq #[.int c t1, .int p t2] }
def AnsPost (s : Shared) (ks : List Int) (k : Int) (Q : Value → Shared → Prop) : Prop :=
  ∀ v h' tk', Kept [] s.heap h' → AnsAt s.heap h' v (ansOf ks k) → Q v { s with heap := h', toks := tk' }

section
variable {s : Shared} {ks : List Int} {k : Int} {Q : Value → Shared → Prop} {g' h' : Heap} {L' : Addr} {m' : Str → Option Value} {t : Tok} {tk' : Nat}
theorem end_cut (hret : AnsPost s ks k Q) (hK : ∀ b o, s.heap.get? b = some o → b ∉ ([] : List Addr) → g'.get? b = some o) (F : Fr g' L' h' m') (e : ansOf ks k = .cut) :
    Q (.str (Str.ofString "cut") t) { s with heap := h', toks := tk' } :=
  hret _ h' tk' (fun b o e hb => F.keep b o (hK b o e hb)) (by rw [e]; exact ⟨t, rfl⟩)
theorem end_marker (hret : AnsPost s ks k Q) (hK : ∀ b o, s.heap.get? b = some o → b ∉ ([] : List Addr) → g'.get? b = some o) (F : Fr g' L' h' m') (e : ansOf ks k = .marker) :
    Q (.str (Str.ofString "marker") t) { s with heap := h', toks := tk' } :=
  hret _ h' tk' (fun b o e hb => F.keep b o (hK b o e hb)) (by rw [e]; exact ⟨t, rfl⟩)
theorem end_code {a : Addr} {c p : Int} {t1 t2 : Tok} (hret : AnsPost s ks k Q) (hK : ∀ b o, s.heap.get? b = some o → b ∉ ([] : List Addr) → g'.get? b = some o) (F : Fr g' L' h' m')
    (N : News g' L' h' [(a, { cls := .type "tuple", data := .seq #[.int c t1, .int p t2] })]) (e : ansOf ks k = .code c p) :
    Q (.ref a) { s with heap := h', toks := tk' } :=
  hret _ h' tk' (fun b o e hb => F.keep b o (hK b o e hb)) (by
    rw [e]
    refine ⟨a, t1, t2, rfl, ?_, (N _ (.head _)).1⟩
    cases q : s.heap.get? a with
    | none => rfl
    | some o => have := hK _ _ q (by simp); rw [(N _ (.head _)).2.2] at this; cases this)
end

section
variable {ks r : List Int} {k : Int}
theorem clip_nn {n : Nat} (h : 0 ≤ k) : clipAt n k = min k.toNat n := by
  obtain ⟨j, rfl⟩ := Int.eq_ofNat_of_zero_le h
  exact clipAt_nat n j
theorem clip_drop (h : 0 ≤ k) : List.take (ks.length - clipAt ks.length k) (List.drop (clipAt ks.length k) ks) = ks.drop k.toNat := by
  rw [clip_nn h]
  have e : List.drop (min k.toNat ks.length) ks = List.drop k.toNat ks := by
    by_cases hl : k.toNat ≤ ks.length
    · rw [Nat.min_eq_left hl]
    · rw [Nat.min_eq_right (by omega), List.drop_length, List.drop_eq_nil_of_le (by omega)]
  rw [e, List.take_of_length_le (by rw [List.length_drop]; omega)]
theorem clip_len (h : 0 ≤ k) : ((min (ks.length - clipAt ks.length k) (ks.length - clipAt ks.length k) : Nat) : Int) = ((ks.drop k.toNat).length : Int) := by
  rw [clip_nn h, List.length_drop]; omega
theorem ans_cut1 (h : 0 ≤ k) (h1 : (List.take (ks.length - clipAt ks.length k) (List.drop (clipAt ks.length k) ks)).length = 0) : ansOf ks k = .cut := by
  rw [clip_drop h, List.length_eq_zero_iff] at h1
  unfold ansOf
  rw [h1, List.dropWhile_nil, if_pos rfl]
theorem ans_cut2 (h : 0 ≤ k) (hr : r = List.dropWhile (fun k => k == 255) (List.take (ks.length - clipAt ks.length k) (List.drop (clipAt ks.length k) ks))) (h1 : r.length = 0) : ansOf ks k = .cut := by
  rw [clip_drop h] at hr
  rw [List.length_eq_zero_iff] at h1
  unfold ansOf
  rw [← hr, if_pos h1]
theorem ans_m1 (h : 0 ≤ k) (hr : r = List.dropWhile (fun k => k == 255) (List.take (ks.length - clipAt ks.length k) (List.drop (clipAt ks.length k) ks))) (h0 : ¬ r.length = 0)
    (h1 : r = List.take (ks.length - clipAt ks.length k) (List.drop (clipAt ks.length k) ks)) : ansOf ks k = .marker := by
  rw [clip_drop h] at hr h1
  rw [List.length_eq_zero_iff] at h0
  unfold ansOf
  rw [← hr, if_neg h0, if_pos (.inl h1)]
theorem head_of_take {r : List Int} (h0 : ¬ r.length = 0) : (List.take (clipAt r.length 1) r = List.map (fun c : UInt8 => ((c.toNat : Nat) : Int)) [0]) ↔ r.getD 0 0 = 0 := by
  have hc : clipAt r.length 1 = 1 := by
    rw [show (1 : Int) = ((1 : Nat) : Int) from rfl, clipAt_nat]
    omega
  rw [hc]
  cases r with
  | nil => exact absurd rfl h0
  | cons x r => simp
theorem ans_m2 (h : 0 ≤ k) (hr : r = List.dropWhile (fun k => k == 255) (List.take (ks.length - clipAt ks.length k) (List.drop (clipAt ks.length k) ks))) (h0 : ¬ r.length = 0)
    (h1 : List.take (clipAt r.length 1) r = List.map (fun c : UInt8 => ((c.toNat : Nat) : Int)) [0]) : ansOf ks k = .marker := by
  rw [clip_drop h] at hr
  rw [head_of_take h0] at h1
  rw [List.length_eq_zero_iff] at h0
  unfold ansOf
  rw [← hr, if_neg h0, if_pos (.inr h1)]
theorem ans_c (h : 0 ≤ k) (hr : r = List.dropWhile (fun k => k == 255) (List.take (ks.length - clipAt ks.length k) (List.drop (clipAt ks.length k) ks))) (h0 : ¬ r.length = 0)
    (h2 : ¬ r = List.take (ks.length - clipAt ks.length k) (List.drop (clipAt ks.length k) ks)) (h1 : ¬ List.take (clipAt r.length 1) r = List.map (fun c : UInt8 => ((c.toNat : Nat) : Int)) [0]) :
    ansOf ks k = .code (r.getD (Int.toNat 0) 0) (k + ((min (ks.length - clipAt ks.length k) (ks.length - clipAt ks.length k) : Nat) : Int) - (r.length : Int) + 1) := by
  rw [clip_drop h] at hr h2
  rw [head_of_take h0] at h1
  rw [clip_len h]
  rw [List.length_eq_zero_iff] at h0
  unfold ansOf
  rw [← hr, if_neg h0, if_neg (by rintro (h | h); exact h2 h; exact h1 h)]
  rfl
end

end Mine
end P1Part

section D2Part
open PySem PySem.W PySem.Calls PyProof.Rows
namespace Mine
local macro_rules | `(tactic| walk_at "getMethod bytes") => `(tactic| (k_here; (with_reducible refine Mine.lstrip_method ?_)))
local macro_rules | `(tactic| walk_at "call builtin:bytes.lstrip") => `(tactic| (k_here; (refine Mine.lstrip_K (by kba_ints) (by kba_size) ?_); intro bL rL tL kL hL1 hL2 hL3))
local macro_rules | `(tactic| walk_at "compareOp Eq bytes bytes") => `(tactic| (k_here; first | (refine Mine.eq_E (by kba_ints) ?_) | (refine Mine.eq_K (by kba_ints) (by first | kba_ints | exact KBw.ints_list _) ?_)))
local macro_rules | `(tactic| walk_at "compareOp NotEq bytes bytes") => `(tactic| (k_here; (refine Mine.ne_E (by kba_ints) ?_)))
def DueC (w : World) (mean : ExcName → Option Value) (mg mb : Str → Option Value) : Prop :=
  ∀ (dp un : Nat) (gd : Option (List Code)) (cn : Str) (cs : Scope) (a : Addr) (ccd : Value) (cl : List (Str × Addr)) (outer : List Env) (A₀ : Around) (base h₀ : Heap) (L : Addr) (m : Str → Option Value) (s : Shared) (Q E : Value → Shared → Prop)
    (b : Array UInt8) (ks : List Int) (k : Int) (tb tk : Tok),
    Below A₀ base outer h₀ → Fr h₀ L s.heap m → (hd.heap_39 w.params).In h₀ → News h₀ L s.heap [] → Top hd.view_39 (looseW hd.view_39 []) mean mg mb h₀ → cs.kind = .function →
    KBw.bInts b = ks → ks.length ≤ 8 → 0 ≤ k → k < 1000 → dp + 1 < recursionLimit → un + 8 < cLine → AnsPost s ks k Q →
    wpAny (model PySem.Challenge.rw_xm0798_01.row.prog w) (ktrTop dp un gd cn cs L a ccd cl outer) (call (.ref 86) [.bytes b tb, .int k tk]) Q E s
theorem dueC {w : World} {mean : ExcName → Option Value} {mg mb : Str → Option Value} : DueC w mean mg mb := by
  unfold DueC
  intro dp un gd cn cs a ccd cl outer A₀ base h₀ L m s Q E b ks k tb tk B F X N T hcs hb hb8 hk hk2 hdp hun hret
  refine wpAny_call ?_
  k_dflt (refine' code_part ?k1 ?k2 ?k3 ?k4 ?k5 ?kA ?kF ?kK ?k6 ?k7 ?k8 ?k9 ?kB ?_ ?c2 ?c3 ?c4 ?c5; (case kA => exact rfl); (case kF => exact rfl); (case kK => assumption); (case k1 => k_asm); (case k2 => k_asm); (case k3 => k_asm); (case k4 => k_asm); (case k5 => k_asm); (case k6 => k_is); (case k7 => k_is); (case k8 => ktr_room); (case k9 => exact BindsTo.of_eq rfl); (case c5 => decide); (case kB => exact locs rfl); (case c2 => exact rfl); (case c3 => exact rfl); (case c4 => exact rfl); k_whole; intro g' L' h' hK1 hK2 F' N' B' X' T'; (try dsimp only); (try k_fold))
  k_steps
  all_goals
    (try (rename News _ _ _ _ => NN))
    rename Fr _ _ _ _ => FF
    rename (∀ b o, s.heap.get? b = some o → _ → _) => hKK
    first
    | with_unfolding_all refine end_cut (s := s) (ks := ks) (k := k) (Q := Q) hret hKK FF ?_
    | with_unfolding_all refine end_marker (s := s) (ks := ks) (k := k) (Q := Q) hret hKK FF ?_
    | with_unfolding_all refine end_code (s := s) (ks := ks) (k := k) (Q := Q) hret hKK FF NN ?_
    clear FF hKK
  all_goals first
    | exact ans_cut1 hk (by assumption)
    | exact ans_cut2 hk (by assumption) (by assumption)
    | exact ans_m1 hk (by assumption) (by assumption) (by assumption)
    | exact ans_m2 hk (by assumption) (by assumption) (by assumption)
    | exact ans_c hk (by assumption) (by assumption) (by assumption) (by assumption)
end Mine
end D2Part

section X1Part
open PySem PySem.W PySem.Calls PyProof.Rows
open Sem (wp)
namespace Mine
section
variable {prog : Program} {w : World} {A : Around} {E : Value → Shared → Prop} {h : Heap} {g : Array GenState} {d : Drawn} {t : Nat} {os : OsState}
variable {nm q : Str} {C N : Addr} {bs bm : List Value} {hdct : Bool} {sn : List Str} {sub : List Value} {ab : Bool} {col : Option Bool} {dd : Option Addr} {k0 k1 k2 k3 k5 : Option Value}

abbrev FX := PySem.F.excBase_Exception

/-- what the class's row of ancestors must hold -/
structure Anc (bm : List Value) : Prop where
  b : bm.contains (.type "Exception") = true
  a : bm.contains (.type "AttributeError") = false
  n : bm.contains (.type "NameError") = false
  base : bm.contains (.type "BaseException") = true

theorem new_run {R : Result → Shared → Prop} (Y : Anc bm) {rest : List Value} (hC : h.get? C = some (excClassObj nm q C N bs bm hdct sn sub ab col dd k0 k1 k2 k3 k5 "Exception.__new__"))
    (hq : R (.ok (.ret (.ref (h.objs.size + 1)))) ⟨(h.push { cls := .type "tuple", data := .seq rest.toArray }).push
      { cls := .ref C, data := .fields #[.ref h.objs.size, .none, .none, .none, .bool false, .none] }, g, d, t, os⟩) (hrest : rest.length ≤ sizeLine := by size_fits) :
    codeAny (model prog w) A (.builtin "Exception.__new__" ⟨.ref C :: rest, []⟩) R ⟨h, g, d, t, os⟩ := by
  have hends := FX.ends
  have hcB : (Value.ref C :: bm).contains (.type "Exception") = true := by rw [List.contains_cons, Y.b, Bool.or_true]
  have hcA : (Value.ref C :: bm).contains (.type "AttributeError") = false := by rw [List.contains_cons, Y.a]; rfl
  have hcN : (Value.ref C :: bm).contains (.type "NameError") = false := by rw [List.contains_cons, Y.n]; rfl
  refine codeAny_builtinAt FX.entry ?_
  unfold Builtin.«BaseException.__new__»
  refine PySem.wpAt_bind ?_
  show PySem.wpAt _ _ _ (stack >>= _) _ _ _
  refine PySem.wpAt_bind (PySem.wpAt_stack fun p below => PySem.wpAt_of_wpAny ?_)
  wp_walk
  refine PySem.wpAt_of_wpAny ?_
  rw [FX.owner]
  repeat (first | with_reducible refine wpAny_madeHere_exc FX.canon hC ?_ | with_reducible refine wpAny_loadPart_at hC ?_ | (with_reducible refine wpAny_isSubtype_exc hC ?_; first | rw [hcB] | rw [hcA] | rw [hcN]) | wp_step)
  show R _ _
  rw [Heap.size_push]
  exact hq

theorem type_run {K : Frag} (Y : Anc bm) (X : K.In h) {rest : List Value} {fI : Addr} {Q : Fin → Shared → Prop}
    (hC : h.get? C = some (excClassObj nm q C N bs bm hdct sn sub ab col dd k0 k1 k2 k3 k5 "Exception.__new__")) (hi : findIn K (.ref C) "__init__" = some (some (.ref fI))) (hf : isFn K (.ref fI) = true)
    (hq : ∀ h' e, Heap.MadeExcOf h h' e (.ref C) rest →
      wpAny (model prog w) A (call (.ref fI) (.ref e :: rest)) (fun r s' => r = .none ∧ Q (.done (.ret (.ref e))) s') E ⟨h', g, d, t, os⟩) (hrest : rest.length ≤ sizeLine := by size_fits) :
    wpAny (model prog w) A (Builtin.«type.__call__» ⟨.ref C :: rest, []⟩) Q E ⟨h, g, d, t, os⟩ := by
  repeat (first | with_reducible refine wpAny_loadPart_at hC ?_ | with_reducible refine wpAny_madeBy_exc hC ?_ | wp_step)
  refine codeAny_call_builtin_code (Code.quiet_builtin _ FX.quiet) (wpAny_check_new_subU FX Y.b .base hC ?_)
  refine new_run Y hC ?_ hrest
  show wpAny _ _ _ _ _ _
  have kp : ∀ b o, h.get? b = some o → ((h.push { cls := .type "tuple", data := .seq rest.toArray }).push { cls := .ref C, data := .fields #[.ref h.objs.size, .none, .none, .none, .bool false, .none] }).get? b = some o :=
    fun b o e => Heap.get?_push_of_some _ (Heap.get?_push_of_some _ e)
  have hC₁ := kp _ _ hC
  have X₁ := X.keeps kp
  have hget : ((h.push { cls := .type "tuple", data := .seq rest.toArray }).push
      { cls := .ref C, data := .fields #[.ref h.objs.size, .none, .none, .none, .bool false, .none] }).get? (h.objs.size + 1) = some
      { cls := .ref C, data := .fields #[.ref h.objs.size, .none, .none, .none, .bool false, .none] } := by heap_get
  have hcC : (Value.ref C :: bm).contains (.ref C) = true := by simp
  unfold isInstance
  repeat (first | with_reducible refine wpAny_loadPart_at hget ?_ | (with_reducible refine wpAny_isSubtype_exc hC₁ ?_; rw [hcC]) | wp_step)
  show wpAny _ _ (typeLookup (.ref C) _) _ _ _
  refine (looks_findIn X₁ hi).here ?_
  refine wpAny_holding (wpAny_bind ((bind_fn X₁ _ (beq_iff_eq.mp hf)).here ?_))
  refine wpAny_bind (wpAny_mono (hq _ (h.objs.size + 1) ⟨kp, Heap.get?_none_of_le (Nat.le_succ _), h.objs.size, hget, Heap.get?_none_of_le (Nat.le_refl _), ?_⟩) (fun r s' hr => ?_) fun _ _ x => x)
  · exact Heap.get?_push_of_some _ (Heap.get?_push_at rfl rfl)
  · obtain ⟨rfl, hQ⟩ := hr
    wp_walk
    exact hQ

theorem make_run {K : Frag} (Y : Anc bm) (X : K.In h) {rest : List Value} {fI : Addr} {Q : Value → Shared → Prop}
    (hC : h.get? C = some (excClassObj nm q C N bs bm hdct sn sub ab col dd k0 k1 k2 k3 k5 "Exception.__new__")) (hi : findIn K (.ref C) "__init__" = some (some (.ref fI))) (hf : isFn K (.ref fI) = true)
    (hq : ∀ h' e, Heap.MadeExcOf h h' e (.ref C) rest →
      wpAny (model prog w) (A.under (.builtin "type.__call__" ⟨.ref C :: rest, []⟩)) (call (.ref fI) (.ref e :: rest)) (fun r s' => r = .none ∧ Q (.ref e) s') E ⟨h', g, d, t, os⟩) (hrest : rest.length ≤ sizeLine := by size_fits) :
    wpAny (model prog w) A (call (.ref C) rest) Q E ⟨h, g, d, t, os⟩ := by
  have f1 := tc_lookup
  have f2 := tc_bind (.ref C)
  have hT : (⟨h, g, d, t, os⟩ : Shared).TypeIs (.ref C) "type" := ⟨_, hC, rfl⟩
  refine wpAny_call (codeAny_of_tree ?_)
  show wpAny _ _ (callAny (.ref C) _) _ _ _
  repeat (any_goals (first | assumption | with_reducible refine wpAny_loadPart_at hC ?_ | wp_step))
  refine ⟨rfl, ?_⟩
  refine codeAny_call_builtin_at (Code.quiet_builtin _ (by decide +kernel)) entry_typeCall (wpAny_check_type_call_sub hC (type_run (hrest := hrest) Y X hC hi hf fun h' e hm => ?_))
  exact hq h' e hm

/-- `Exception.__init__(e, x)`: the new row of arguments -/
theorem init_checked {M : Model} (Y : Anc bm) {e : Addr} {oe : Obj} {rest : List Value} {Q : Unit → Shared → Prop}
    (hC : h.get? C = some (excClassObj nm q C N bs bm hdct sn sub ab col dd k0 k1 k2 k3 k5 "Exception.__new__")) (he : h.get? e = some oe) (hcls : oe.cls = .ref C) (hq : Q () ⟨h, g, d, t, os⟩) :
    wpAny M A (checkBuiltinCall "Exception.__init__" ⟨.ref e :: rest, []⟩) Q E ⟨h, g, d, t, os⟩ := by
  have hcB : (Value.ref C :: bm).contains (.type "Exception") = true := by rw [List.contains_cons, Y.b, Bool.or_true]
  have hshort := FX.noStar
  simp only [checkBuiltinCall, FX.initKind, FX.initSplit, FX.initRow]
  repeat (first | (with_reducible refine wpAny_loadPart_at he ?_; rw [hcls]) | with_reducible refine wpAny_loadPart_at hC ?_ | (with_reducible refine wpAny_isSubtype_exc hC ?_; rw [hcB]) | wp_step)
  refine wpAny_onRaise ?_
  rw [show ∀ (a b : String) (n : Nat), Bind.check ⟨.positional, "*", "Exception", .self, [⟨"args", .varPos, false⟩]⟩ a b n (List.map (fun x => x.fst) ({ pos := Value.ref e :: rest } : Args).kw) = pure () from
    fun a b n => check_star_args _ _ _ _ _ _]
  exact wpAny_pure hq

theorem init_run (Y : Anc bm) {e t0 : Addr} {rest : List Value} {Q : Value → Shared → Prop}
    (hC : h.get? C = some (excClassObj nm q C N bs bm hdct sn sub ab col dd k0 k1 k2 k3 k5 "Exception.__new__"))
    (he : h.get? e = some { cls := .ref C, data := .fields #[.ref t0, .none, .none, .none, .bool false, .none] })
    (hq : ∀ h', (∀ b o, h.get? b = some o → b ≠ e → h'.get? b = some o) → h'.get? e = some { cls := .ref C, data := .fields #[.ref h.objs.size, .none, .none, .none, .bool false, .none] } → Q .none ⟨h', g, d, t, os⟩)
    (hrest : rest.length ≤ sizeLine := by size_fits) :
    wpAny (model prog w) A (call (.builtin "Exception.__init__") (.ref e :: rest)) Q E ⟨h, g, d, t, os⟩ := by
  refine wpAny_call (codeAny_call_builtin FX.init.plain FX.initEntry (init_checked Y hC he rfl ?_))
  wp_walk
  refine hq _ (fun b o hb hbe => (Heap.get?_update_other _ _ (Ne.symm hbe)).trans (Heap.get?_push_of_some _ hb)) ?_
  rw [Heap.get?_update_self _ (Heap.get?_push_of_some _ he) rfl]
  rfl
end
end Mine
end X1Part

section X2Part
open PySem PySem.W PySem.Calls PyProof.Rows
namespace Mine
section
variable {prog : Program} {w : World} {A : Around} {E : Value → Shared → Prop} {h : Heap} {g : Array GenState} {d : Drawn} {t : Nat} {os : OsState} {K : Frag} {C e : Addr} {vs : Array Value} {name : Str} {v : Value} {cd : ClassData}

theorem store_run {tk : Tok} {R : Result → Shared → Prop} (X : K.In h) (he : h.get? e = some { cls := .ref C, data := .fields vs })
    (hcd : clsIn K C = some cd) (hsub : mroIn K C (.type "object") = some true) (hr : refuseLoop (.ref e) "__setattr__" cd.mro = pure ()) (hh : cd.hasDict = true) (hne : cd.mro.isEmpty = false) (ha : findIn K (.ref C) name = some none)
    (hq : ∀ h' tk', (∀ b o, h.get? b = some o → b ≠ e → h'.get? b = some o) → (∃ dx, h'.get? e = some { cls := .ref C, dict := some dx, data := .fields vs }) → R (.ok (.ret .none)) ⟨h', g, d, tk', os⟩) :
    codeAny (model prog w) A (.call (.builtin "object.__setattr__") ⟨[.ref e, .str name tk, v], []⟩) R ⟨h, g, d, t, os⟩ := by
  have SF := PySem.F.store_object
  have ty : Looks (model prog w) h (typeOf (.ref e)) (.ref C) := (Looks.ld he).andThen .now
  have sub : Looks (model prog w) h (isInstance (.ref e) (.type "object")) true := ty.andThen (looks_mroIn X hsub)
  have hm : Looks (model prog w) h (mroOf (.ref C)) cd.mro := (looks_clsIn X hcd).andThen .now
  refine codeAny_call_builtin SF.slot.plain SF.entry (@check_slot (model prog w) _ _ ⟨h, g, d, t, os⟩ "object.__setattr__" "object" "__setattr__" (.ref e) [.str name tk, v] [] _ SF.kind SF.split sub (SF.args (.ref e) (.str name tk) v) ?_)
  rw [osa_eq, refuse_eq]
  refine wpAny_bind (wpAny_bind (ty.here (wpAny_bind (hm.here ?_))))
  rw [hr]
  refine wpAny_pure (wpAny_bind (ty.here (wpAny_bind ((looks_findIn X ha).here (wpAny_bind (wpAny_pure ?_))))))
  show wpAny _ _ (PySem.Builtin.ObjectAttr.storeInOwnDict (.ref e) (.ref C) (.str name tk) name v false) _ _ _
  refine wpAny_bind (wpAny_pure (wpAny_bind (wpAny_bind (wpAny_loadPart he (wpAny_bind ((looks_clsIn X hcd).here ?_))))))
  rw [hh]
  rw [if_neg (by decide)]
  show wpAny _ _ (if (!true || !typeHasDict (.ref C)) = true then pure none else (alloc { cls := .type "dict", data := .dict #[] } >>= fun d => (update e fun o => { o with dict := some d }) >>= fun _ => dictMade (.ref C) e d)) _ _ _
  rw [if_neg (by simp [typeHasDict])]
  have hx₁ : (h.push { cls := .type "dict", data := .dict #[] }).get? e = some { cls := .ref C, data := .fields vs } := Heap.get?_push_of_some _ he
  have hxs : e ≠ h.objs.size := Nat.ne_of_lt (Heap.lt_size he)
  refine wpAny_bind (wpAny_alloc' ?_)
  refine wpAny_bind (wpAny_update' hx₁ ?_)
  refine wpAny_pure ?_
  have hgd : ((h.push { cls := .type "dict", data := .dict #[] }).update e fun o => { o with dict := some h.objs.size }).get? h.objs.size
      = some { cls := .type "dict", data := .dict #[] } :=
    (Heap.get?_update_ne _ _ _ _ hxs.symm).trans (Heap.get?_push_at rfl rfl)
  have hnd : ((h.push { cls := .type "dict", data := .dict #[] }).update e fun o => { o with dict := some h.objs.size }).Ns h.objs.size (fun _ => none) :=
    ⟨_, #[], _, hgd, rfl, fun e he => absurd he (by simp), fun _ => rfl⟩
  show wpAny _ _ (PySem.Builtin.ObjectAttr.storeInDict h.objs.size (.str name tk) name v) _ _ _
  unfold PySem.Builtin.ObjectAttr.storeInDict PySem.Builtin.ObjectAttr.newKeyGuard
  refine wpAny_bind (wpAny_pure (wpAny_bind (wpAny_nsSet1 (Heap.Ns1.of_empty hnd) fun h' hn' hs => ?_)))
  obtain ⟨oD, esD, epD, hoD, hdD, hcD⟩ := hn'.count (Within.cons name v Within.nil)
  refine wpAny_bind (wpAny_lookBehind hoD (by rw [hdD]; exact pastItsLine_dict (Nat.le_trans hcD (by rw [List.length_cons, List.length_nil, sizeLine_eq]; omega))) ?_)
  refine wpAny_pure (hq h' _ (fun b ob hb hbe => ?_) ⟨h.objs.size, ?_⟩)
  · exact (hs.2 b (Nat.ne_of_lt (Heap.lt_size hb))).trans ((Heap.get?_update_ne _ _ _ _ hbe).trans (Heap.get?_push_of_some _ hb))
  · exact (hs.2 e hxs).trans (Heap.get?_update_self _ hx₁ rfl)

theorem set_run {Q : Unit → Shared → Prop} {E : Value → Shared → Prop} (X : K.In h) (he : h.get? e = some { cls := .ref C, data := .fields vs }) (hs : findIn K (.ref C) "__setattr__" = some (some (.builtin "object.__setattr__")))
    (hcd : clsIn K C = some cd) (hsub : mroIn K C (.type "object") = some true) (hr : refuseLoop (.ref e) "__setattr__" cd.mro = pure ()) (hh : cd.hasDict = true) (hne : cd.mro.isEmpty = false) (ha : findIn K (.ref C) name = some none)
    (hq : ∀ h' tk', (∀ b o, h.get? b = some o → b ≠ e → h'.get? b = some o) → (∃ dx, h'.get? e = some { cls := .ref C, dict := some dx, data := .fields vs }) → Q () ⟨h', g, d, tk', os⟩) :
    wpAny (model prog w) A (setAttr (.ref e) name v) Q E ⟨h, g, d, t, os⟩ :=
  set_plain (s := ⟨h, g, d, t, os⟩) (C := C) (ox := { cls := .ref C, data := .fields vs }) (od := none) X ⟨he, rfl, rfl, trivial⟩ hs (store_run X he hcd hsub hr hh hne ha hq)

theorem refuse_exc (self : Value) (C P : Addr) : refuseLoop self "__setattr__" [.ref C, .ref P, .type "Exception", .type "BaseException", .type "object"] = pure () := by
  rw [refuseLoop_ref, refuseLoop_ref]
  kernel_rfl
end
end Mine
end X2Part

section X3Part
open PySem PySem.W PySem.Calls PyProof.Rows
namespace Mine
abbrev excTail : List Value := [.ref 31, .type "Exception", .type "BaseException", .type "object"]
theorem anc : Anc excTail := ⟨rfl, rfl, rfl, rfl⟩
structure ExcCls (K : Frag) (C : Addr) : Prop where
  cls : ∃ nm q N bs sn sub ab col dd k0 k1 k2 k3 k5, K.lookup C = some (excClassObj nm q C N bs excTail true sn sub ab col dd k0 k1 k2 k3 k5 "Exception.__new__")
  init : findIn K (.ref C) "__init__" = some (some (.ref 28))
  set : findIn K (.ref C) "__setattr__" = some (some (.builtin "object.__setattr__"))
  sub : mroIn K C (.type "object") = some true
  base : mroIn K C (.type "BaseException") = some true
  msg : findIn K (.ref C) "message" = some none
theorem exc56 (P : Params) : ExcCls (hd.heap_39 P) 56 where
  cls := ⟨_, _, _, _, _, _, _, _, _, _, _, _, _, _, by with_unfolding_all rfl⟩
  init := by k_is
  set := by k_is
  sub := by k_is
  base := by k_is
  msg := by k_is
theorem exc44 (P : Params) : ExcCls (hd.heap_39 P) 44 where
  cls := ⟨_, _, _, _, _, _, _, _, _, _, _, _, _, _, by with_unfolding_all rfl⟩
  init := by k_is
  set := by k_is
  sub := by k_is
  base := by k_is
  msg := by k_is
theorem fn28 (P : Params) : isFn (hd.heap_39 P) (.ref 28) = true := by k_is

abbrev excObj (C : Addr) (t : Addr) (dx : Option Addr) : Obj := { cls := .ref C, dict := dx, data := .fields #[.ref t, .none, .none, .none, .bool false, .none] }

section
variable {prog : Program} {w : World} {A : Around} {E : Value → Shared → Prop} {s : Shared} {K : Frag} {h₀ : Heap} {L C e t0 : Addr} {m : Str → Option Value} {v : Value}

theorem kept_fr {h h' : Heap} (F : Fr h₀ L h m) (k : ∀ b o, h.get? b = some o → b ≠ e → h'.get? b = some o) (he : h₀.get? e = none) (hL : e ≠ L) : Fr h₀ L h' m :=
  ⟨F.ns.at' fun o q => k L o q (Ne.symm hL), fun b o q => k b o (F.keep b o q) (fun z => by rw [z, he] at q; cases q), F.above⟩

theorem init_N {Q : Value → Shared → Prop} (Z : ExcCls K C) (F : Fr h₀ L s.heap m) (X₀ : K.In h₀) (N : News h₀ L s.heap [(e, excObj C t0 none)])
    (h : ∀ h' t1, Fr h₀ L h' m → News h₀ L h' [(e, excObj C t1 none)] → Q .none { s with heap := h' }) :
    wpAny (model prog w) A (call (.builtin "Exception.__init__") [.ref e, v]) Q E s := by
  obtain ⟨nm, q, N', bs, sn, sub, ab, col, dd, k0, k1, k2, k3, k5, hC⟩ := Z.cls
  have hN := N _ (.head _)
  refine init_run (h := s.heap) anc ((X₀.keeps F.keep) _ _ hC) hN.1 fun h' hk he => ?_
  exact h h' _ (kept_fr F hk hN.2.2 hN.2.1) (fun p hp => by obtain rfl := List.mem_singleton.mp hp; exact ⟨he, hN.2⟩)

theorem set_N {Q : Unit → Shared → Prop} (Z : ExcCls K C) (F : Fr h₀ L s.heap m) (X₀ : K.In h₀) (N : News h₀ L s.heap [(e, excObj C t0 none)])
    (h : ∀ h' dx tk', Fr h₀ L h' m → News h₀ L h' [(e, excObj C t0 (some dx))] → Q () { s with heap := h', toks := tk' }) :
    wpAny (model prog w) A (setAttr (.ref e) (Str.ofString "message") v) Q E s := by
  obtain ⟨nm, q, N', bs, sn, sub, ab, col, dd, k0, k1, k2, k3, k5, hC⟩ := Z.cls
  have hN := N _ (.head _)
  refine set_run (h := s.heap) (X₀.keeps F.keep) hN.1 Z.set (cd := { name := nm, bases := bs, mro := .ref C :: excTail, ns := N', qualname := q, hasDict := true, slotNames := sn, subclasses := sub, abstract := ab, collection := col, hasDel := false })
    (by unfold clsIn; rw [hC]) Z.sub (refuse_exc _ _ _) rfl rfl Z.msg fun h' tk' hk ⟨dx, he⟩ => ?_
  exact h h' dx tk' (kept_fr F hk hN.2.2 hN.2.1) (fun p hp => by obtain rfl := List.mem_singleton.mp hp; exact ⟨he, hN.2⟩)
end

local macro_rules | `(tactic| walk_at "getMethod type:Exception") => `(tactic| (k_here; k_dflt (refine' method_type ?k1 ?k2 ?k3 ?k4 ?k5 ?k6 ?_; (case k1 => k_asm); (case k2 => k_asm); (case k3 => (first | rfl | kernel_rfl)); (case k4 => decide +kernel); (case k5 => k_is); (case k6 => k_handed))))
local macro_rules | `(tactic| walk_at "call builtin:Exception.__init__") => `(tactic| (k_here; k_dflt (refine' Mine.init_N (by assumption) ?k1 ?k2 ?k3 ?_; (case k1 => k_asm); (case k2 => k_asm); (case k3 => k_asm)); intro h' t' F' N'))
local macro_rules | `(tactic| walk_at "setAttr ref") => `(tactic| (k_here; k_dflt (refine' Mine.set_N (by assumption) ?k1 ?k2 ?k3 ?_; (case k1 => k_asm); (case k2 => k_asm); (case k3 => k_asm)); intro h' dx' tk' F' N'))

def InitC (w : World) (mean : ExcName → Option Value) (mg mb : Str → Option Value) : Prop :=
  ∀ (dp un : Nat) (gd : Option (List Code)) (cn : Str) (cs : Scope) (a : Addr) (ccd : Value) (cl : List (Str × Addr)) (outer : List Env) (A₀ : Around) (base h₀ : Heap) (L : Addr) (m : Str → Option Value) (s : Shared) (Q E : Value → Shared → Prop)
    (C e t : Addr) (x : Str) (tx : Tok),
    Below A₀ base outer h₀ → Fr h₀ L s.heap m → (hd.heap_39 w.params).In h₀ → News h₀ L s.heap [(e, excObj C t none)] → Top hd.view_39 (looseW hd.view_39 []) mean mg mb h₀ → cs.kind = .function →
    ExcCls (hd.heap_39 w.params) C → dp + 1 < recursionLimit → un + 8 < cLine →
    (∀ h' t' dx tk', Kept [e] s.heap h' → h'.get? e = some (excObj C t' (some dx)) → Q .none { s with heap := h', toks := tk' }) →
    wpAny (model PySem.Challenge.rw_xm0798_01.row.prog w) (ktrTop dp un gd cn cs L a ccd cl outer) (call (.ref 28) [.ref e, .str x tx]) Q E s

theorem init_end {s : Shared} {e C t' dx : Addr} {Q : Value → Shared → Prop} {g' h' : Heap} {L' : Addr} {m' : Str → Option Value} {tk' : Nat}
    (hret : ∀ h' t' dx tk', Kept [e] s.heap h' → h'.get? e = some (excObj C t' (some dx)) → Q .none { s with heap := h', toks := tk' })
    (hK : ∀ b o, s.heap.get? b = some o → b ∉ [e] → g'.get? b = some o) (F : Fr g' L' h' m') (N : News g' L' h' [(e, excObj C t' (some dx))]) : Q .none { s with heap := h', toks := tk' } :=
  hret h' t' dx tk' (fun b o q hb => F.keep b o (hK b o q hb)) (N _ (.head _)).1

theorem initC {w : World} {mean : ExcName → Option Value} {mg mb : Str → Option Value} : InitC w mean mg mb := by
  unfold InitC
  intro dp un gd cn cs a ccd cl outer A₀ base h₀ L m s Q E C e t x tx B F X N T hcs hZ hdp hun hret
  refine wpAny_call ?_
  k_dflt (refine' code_part ?k1 ?k2 ?k3 ?k4 ?k5 ?kA ?kF ?kK ?k6 ?k7 ?k8 ?k9 ?kB ?_ ?c2 ?c3 ?c4 ?c5; (case kA => exact rfl); (case kF => exact rfl); (case kK => assumption); (case k1 => k_asm); (case k2 => k_asm); (case k3 => k_asm); (case k4 => k_asm); (case k5 => k_asm); (case k6 => k_is); (case k7 => k_is); (case k8 => ktr_room); (case k9 => exact BindsTo.of_eq rfl); (case c5 => decide); (case kB => exact locs rfl); (case c2 => exact rfl); (case c3 => exact rfl); (case c4 => exact rfl); k_whole; intro g' L' h' hK1 hK2 F' N' B' X' T'; (try dsimp only); (try k_fold))
  k_steps
  all_goals
    rename News _ _ _ _ => NN
    rename Fr _ _ _ _ => FF
    rename (∀ b o, s.heap.get? b = some o → _ → _) => hK
    with_unfolding_all exact init_end (s := s) (Q := Q) hret (fun b o q hb => hK b o q hb) FF NN

theorem under_is (dp un : Nat) (gd : Option (List Code)) (cn : Str) (cs : Scope) (L a : Addr) (ccd : Value) (cl : List (Str × Addr)) (outer : List Env) (C : Addr) (rest : List Value) :
    (ktrTop dp un gd cn cs L a ccd cl outer).under (.builtin "type.__call__" ⟨.ref C :: rest, []⟩) = ktrTop (dp + 1) (un + 1) gd cn cs L a ccd cl outer := by
  cases gd <;> rfl

/-- an own exception made, its base's `__init__` run -/
theorem callOwn {w : World} {mean : ExcName → Option Value} {mg mb : Str → Option Value} {dp un : Nat} {gd : Option (List Code)} {cn : Str} {cs : Scope} {a : Addr} {ccd : Value} {cl : List (Str × Addr)} {outer : List Env} {A₀ : Around} {base h₀ : Heap} {L : Addr} {m : Str → Option Value} {s : Shared} {Q E : Value → Shared → Prop}
    {C : Addr} {x : Str} {tx : Tok}
    (B : Below A₀ base outer h₀) (F : Fr h₀ L s.heap m) (X : (hd.heap_39 w.params).In h₀) (T : Top hd.view_39 (looseW hd.view_39 []) mean mg mb h₀) (hcs : cs.kind = .function)
    (Z : ExcCls (hd.heap_39 w.params) C) (hdp : dp + 2 < recursionLimit) (hun : un + 16 < cLine)
    (hret : ∀ h' e t' dx tk', (∀ b o, s.heap.get? b = some o → h'.get? b = some o) → s.heap.get? e = none → h'.get? e = some (excObj C t' (some dx)) → Q (.ref e) { s with heap := h', toks := tk' }) :
    wpAny (model PySem.Challenge.rw_xm0798_01.row.prog w) (ktrTop dp un gd cn cs L a ccd cl outer) (call (.ref C) [.str x tx]) Q E s := by
  obtain ⟨nm, q, N', bs, sn, sub, ab, col, dd, k0, k1, k2, k3, k5, hC⟩ := Z.cls
  refine make_run (h := s.heap) anc (X.keeps F.keep) ((X.keeps F.keep) _ _ hC) Z.init (fn28 _) (fun h' e hm => ?_) (by size_fits)
  rw [under_is]
  obtain ⟨t, he, ht, hto⟩ := hm.there
  have hL : e ≠ L := fun z => by obtain ⟨oL, _, _, q, _⟩ := F.ns; have := hm.new; rw [z, q] at this; cases this
  have h0 : h₀.get? e = none := by
    cases q : h₀.get? e with
    | none => rfl
    | some o => have := F.keep e o q; rw [hm.new] at this; cases this
  refine initC (dp + 1) (un + 1) gd cn cs a ccd cl outer A₀ base h₀ L m { s with heap := h' } _ E C e t x tx B (F.keeps hm.keeps) X (fun p hp => by obtain rfl := List.mem_singleton.mp hp; exact ⟨he, hL, h0⟩) T hcs Z (by omega) (by omega)
    fun h'' t' dx tk' hk he' => ⟨rfl, hret h'' e t' dx tk' (fun b o hb => hk b o (hm.keeps b o hb) fun hbe => ?_) hm.new he'⟩
  rw [List.mem_singleton.mp hbe, hm.new] at hb; cases hb
end Mine
end X3Part

section X4Part
open PySem PySem.W PySem.Calls PyProof.Rows
namespace Mine
def RaisableO (M : Model) (E : Value → Shared → Prop) (v : Value) (s₁ : Shared) : Prop :=
  ∃ a ob vs C, v = .ref a ∧ s₁.heap.get? a = some ob ∧ ob.cls = .ref C ∧ ob.data = .fields vs ∧ vs[1]? = some .none ∧ Looks M s₁.heap (isSubtype (.ref C) (.type "BaseException")) true ∧ Looks M s₁.heap (typeOf (.ref C)) (.type "type") ∧ E (.ref a) s₁

section
variable {M : Model} {A : Around} {E : Value → Shared → Prop} {s : Shared} {env : Env}
theorem raise_own {e : Expr} {pos : Pos} {Q : Flow → Shared → Prop} (hh : A.handled = none)
    (h : wpAny M A (eval e env) (RaisableO M E) E s) : wpAny M A (exec (.Raise (some e) none pos) env) Q E s := by
  show wpAny M A (do standAt pos; raiseStmt env (some (do let v ← eval e env; standAt pos; pure v)) none) Q E s
  refine wpAny_bind (wpAny_standAt ?_)
  unfold raiseStmt
  dsimp only
  refine wpAny_bind (wpAny_bind (wpAny_mono h (fun v s₁ h₁ => wpAny_bind (wpAny_standAt (wpAny_pure ?_))) fun _ _ x => x))
  obtain ⟨a, ob, vs, C, rfl, ha, hcls, hd, h1, hsub, hty, hE⟩ := h₁
  have ty : Looks M s₁.heap (typeOf (.ref a)) (.ref C) := by
    rw [← hcls]; exact (Looks.ld ha).andThen .now
  have hnt : ∀ {Q' : Bool → Shared → Prop}, Q' false s₁ → wpAny M A (isType (.ref a)) Q' E s₁ := by
    intro Q' hq
    simp only [isType, loadHead]
    refine wpAny_bind (wpAny_loadPart ha ?_)
    rw [hd]; exact wpAny_pure hq
  refine wpAny_bind (wpAny_pure ?_)
  dsimp only
  refine wpAny_bind (wpAny_holding ?_)
  unfold excFromValue isExcClass
  refine wpAny_bind (wpAny_bind (hnt ?_))
  simp only [Bool.false_eq_true, if_false]
  refine wpAny_pure ?_
  simp only [Bool.false_eq_true, if_false]
  refine wpAny_bind ((show Looks M s₁.heap (isInstance (.ref a) (.type "BaseException")) true from ty.andThen hsub).here ?_)
  simp only [if_true]
  refine wpAny_pure ?_
  refine wpAny_bind (hnt ?_)
  simp only [Bool.false_eq_true, if_false]
  unfold raisedInstance
  refine wpAny_bind (wpAny_bind (ty.here (wpAny_bind (hty.here ?_))))
  rw [if_pos (show (Value.type "type" == Value.type "type") = true from by decide)]
  refine wpAny_pure ?_
  unfold setFlight raiseNew
  refine wpAny_bind (wpAny_bind (wpAny_field ha hd h1 ?_))
  rw [if_neg (by decide)]
  refine wpAny_pure (wpAny_bind (wpAny_handled ?_))
  rw [hh]
  first
    | exact wpAny_throw hE
    | exact wpAny_bind (wpAny_pure (wpAny_throw hE))
end

/-- an own exception that was just made -/
structure NewO (h h' : Heap) (e C : Addr) : Prop where
  keeps : ∀ b o, h.get? b = some o → h'.get? b = some o
  new : h.get? e = none
  there : ∃ t dx, h'.get? e = some (excObj C t (some dx))

section
variable {M : Model} {A : Around} {E : Value → Shared → Prop} {s' : Shared} {base g h : Heap} {outer : List Env} {L a e C : Addr} {m : Str → Option Value} {name : Str} {scope : Scope} {cd : Value} {Q : Unit → Shared → Prop}
theorem leave_own (K : Below A base outer g) (hx : NewO h s'.heap e C) (F : Fr g L h m)
    (hQ : ∀ h', RaisedSN base g outer e (.ref C) [] h' → g.UpToSlots h' → Q () { s' with heap := h' }) (hk : scope.kind = .function := by rfl) :
    wpAny M (A.deeper (envOf name scope L a cd)) (leaving (envOf name scope L a cd) (.ref e)) Q E s' := by
  have K' := K.push (name := name) (a := a) (cd := cd) F hk
  have hin : ∀ env ∈ (envOf name scope L a cd :: outer), ∀ b, env.frame = some b → b ∈ (envOf name scope L a cd :: outer).filterMap (·.frame) := fun env he b hb => List.mem_filterMap.mpr ⟨env, he, hb⟩
  have st : base.StaysIn (hideAll h ((envOf name scope L a cd :: outer).filterMap (·.frame))) := fun b o q => hideAll_get _ (K'.stays b o q) fun hm => by
    rw [(K'.frames.mem hm).1] at q; cases q
  have sg : ∀ b o, g.get? b = some o → b ∉ outer.filterMap (·.frame) → (hideAll h ((envOf name scope L a cd :: outer).filterMap (·.frame))).get? b = some o := fun b o q nm => hideAll_get _ (F.keep b o q) fun hm => by
    rcases kts_mem hm with z | z
    · rw [z, kts_self F] at q
      cases q
    · exact nm z
  obtain ⟨t, dx, he⟩ := hx.there
  have hen : (hideAll h ((envOf name scope L a cd :: outer).filterMap (·.frame))).get? e = none := by
    cases q : (hideAll h ((envOf name scope L a cd :: outer).filterMap (·.frame))).get? e with
    | none => rfl
    | some o => have := of_hideAll _ q; rw [hx.new] at this; cases this
  refine wpAny_leaving_firstW (a0 := .ref t) K'.stack ((funFrames_hide K'.frames hin).of_keeps fun b o hb _ => ⟨o, hx.keeps b o hb, rfl⟩) rfl he (fun b o hb => hx.keeps b o (of_hideAll _ hb)) hen rfl rfl rfl fun h' hL => ?_
  obtain ⟨k1, ⟨_, _, k2⟩, k3, k4⟩ := hL
  exact hQ h' ⟨_, .ref t, st, sg, (fun q hq => nomatch hq), k1, hen, k2, k3⟩ (((Heap.UpToSlots.of_keeps F.keep).trans (Heap.UpToSlots.of_keeps hx.keeps)).trans k4)
end

section
variable {prog : Program} {w : World} {A : Around} {E : Value → Shared → Prop} {env : Env} {test : Expr} {body : List Stmt} {pos : Pos} {Q : Flow → Shared → Prop}
theorem while_rule (I : Nat → Shared → Prop) (hE : PassesOwn (model prog w) A env E)
    (step : ∀ n s, I n s → wpAny (model prog w) A (isTrue test env (eval test env)) (fun b s₂ => WhlIf b (wpAny (model prog w) A (execs body env) (fun f s₃ => f = .next ∧ ∃ k, k < n ∧ I k s₃) E s₂) (wpAny (model prog w) A (execs [] env) Q E s₂)) E s)
    (n : Nat) {s : Shared} (h : I n s) : wpAny (model prog w) A (exec (.While test body [] pos) env) Q E s := by
  have key : ∀ N n s, n < N → I n s → WhlRest prog w A E env test body [] Q 1 s := by
    intro N
    induction N with
    | zero => intro n s h; exact absurd h (Nat.not_lt_zero _)
    | succ N ih =>
      intro n s hn hI
      refine whl_turn hE (wpAny_mono (step n s hI) (fun b s₂ h₂ => ?_) fun _ _ x => x)
      cases b with
      | false => exact h₂
      | true =>
        unfold WhlIf at h₂ ⊢
        rw [if_pos rfl] at h₂ ⊢
        refine wpAny_mono h₂ (fun f s₃ h₃ => ?_) fun _ _ x => x
        obtain ⟨rfl, k, hk, hI'⟩ := h₃
        exact ih k s₃ (by omega) hI'
  exact whl_start 1 (key (n + 1) n s (Nat.lt_succ_self _) h)
end

def Hold (P : Prop) : Prop := P
theorem hold {P : Prop} (h : Hold P) : P := h
end Mine
end X4Part

section R2Part
open PySem PySem.W PySem.Calls PyProof.Rows
namespace Mine
theorem raise_call {w : World} {mean : ExcName → Option Value} {mg mb : Str → Option Value} {dp un : Nat} {gd : Option (List Code)} {cn : Str} {cs : Scope} {a : Addr} {ccd : Value} {cl : List (Str × Addr)} {outer : List Env} {A₀ : Around} {base h₀ : Heap} {L : Addr} {m : Str → Option Value} {s : Shared} {E : Value → Shared → Prop}
    {C : Addr} {x : Str} {tx : Tok} (Z : ExcCls (hd.heap_39 w.params) C)
    (B : Below A₀ base outer h₀) (F : Fr h₀ L s.heap m) (X : (hd.heap_39 w.params).In h₀) (T : Top hd.view_39 (looseW hd.view_39 []) mean mg mb h₀) (hcs : cs.kind = .function)
    (hdp : dp + 2 < recursionLimit) (hun : un + 16 < cLine)
    (h : ∀ h' e tk', NewO s.heap h' e C → E (.ref e) { s with heap := h', toks := tk' }) :
    wpAny (model PySem.Challenge.rw_xm0798_01.row.prog w) (ktrTop dp un gd cn cs L a ccd cl outer) (call (.ref C) [.str x tx]) (RaisableO (model PySem.Challenge.rw_xm0798_01.row.prog w) E) E s := by
  refine callOwn B F X T hcs Z hdp hun fun h' e t' dx tk' hk hn he => ?_
  have X' := (X.keeps F.keep).keeps hk
  obtain ⟨nm, q, N', bs, sn, sub, ab, col, dd, k0, k1, k2, k3, k5, hC⟩ := Z.cls
  exact ⟨e, _, _, C, rfl, he, rfl, rfl, rfl, looks_mroIn X' Z.base, (Looks.ld (X' _ _ hC)).andThen .now, h h' e tk' ⟨hk, hn, t', dx, he⟩⟩

local macro_rules | `(tactic| walk_at "exec Raise some none") => `(tactic| (k_here; k_dflt (refine' Mine.raise_own ?hh ?_; (case hh => first | exact rfl | assumption); k_whole)))
local macro_rules | `(tactic| walk_at "call ref") => `(tactic| (k_here; (with_reducible show wpAny _ _ (call (Value.ref _) [Value.str _ _]) _ _ _); k_dflt (first
  | (refine' Mine.raise_call (Mine.exc56 _) ?B ?F ?X ?T ?hk ?d ?u ?_; (case B => k_asm); (case F => k_asm); (case X => k_asm); (case T => k_asm); (case hk => first | exact rfl | assumption); (case d => ktr_room); (case u => ktr_units); k_whole)
  | (refine' Mine.raise_call (Mine.exc44 _) ?B ?F ?X ?T ?hk ?d ?u ?_; (case B => k_asm); (case F => k_asm); (case X => k_asm); (case T => k_asm); (case hk => first | exact rfl | assumption); (case d => ktr_room); (case u => ktr_units); k_whole)); intro h' e' tk' O'))
local macro_rules | `(tactic| walk_at "leaving ref") => `(tactic| (k_here; (refine' Mine.leave_own ?K ?hx ?F ?_; (case hx => assumption); (case K => assumption); (case F => assumption); k_whole); intro h' R' U'))
local macro_rules | `(tactic| walk_at "exec While") => `(tactic| (refine Mine.hold ?_))
local macro_rules | `(tactic| walk_at "exec While BoolOp") => `(tactic| (refine Mine.hold ?_))


def ReadPost (s : Shared) (base : Heap) (l : List Env) (ks : List Int) (k : Int) (Q E : Value → Shared → Prop) : Prop :=
  (∀ c p a t1 t2 h' tk', ansOf ks k = .code c p → Kept [] s.heap h' → s.heap.get? a = none → h'.get? a = some { cls := .type "tuple", data := .seq #[.int c t1, .int p t2] } → Q (.ref a) { s with heap := h', toks := tk' }) ∧
  (∀ e h' tk', ansOf ks k = .cut → RaisedSN base s.heap l e (.ref 56) [] h' → s.heap.UpToSlots h' → E (.ref e) { s with heap := h', toks := tk' }) ∧
  (∀ e h' tk', ansOf ks k = .marker → RaisedSN base s.heap l e (.ref 44) [] h' → s.heap.UpToSlots h' → E (.ref e) { s with heap := h', toks := tk' })
def ReadC (w : World) (mean : ExcName → Option Value) (mg mb : Str → Option Value) : Prop :=
  ∀ (dp un : Nat) (gd : Option (List Code)) (cn : Str) (cs : Scope) (a : Addr) (ccd : Value) (cl : List (Str × Addr)) (outer : List Env) (A₀ : Around) (base h₀ : Heap) (L : Addr) (m : Str → Option Value) (s : Shared) (Q E : Value → Shared → Prop)
    (b : Array UInt8) (ks : List Int) (k : Int) (tb tk : Tok),
    Below A₀ base outer h₀ → Fr h₀ L s.heap m → (hd.heap_39 w.params).In h₀ → News h₀ L s.heap [] → Top hd.view_39 (looseW hd.view_39 []) mean mg mb h₀ → cs.kind = .function →
    KBw.bInts b = ks → ks.length ≤ 8 → 0 ≤ k → k < 1000 → dp + 3 < recursionLimit → un + 30 < cLine → ReadPost s base (envX cn cs L a ccd cl :: outer) ks k Q E →
    wpAny (model PySem.Challenge.rw_xm0798_01.row.prog w) (ktrTop dp un gd cn cs L a ccd cl outer) (call (.ref 65) [.bytes b tb, .int k tk]) Q E s
section
variable {ks : List Int} {k j : Int}
theorem read_cut1 (h : 0 ≤ k) (h1 : (ks.length : Int) ≤ k) : ansOf ks k = .cut := by
  unfold ansOf
  rw [List.drop_eq_nil_of_le (by omega), List.dropWhile_nil, if_pos rfl]
theorem drop_at (h : 0 ≤ k) (h1 : ¬ (ks.length : Int) ≤ k) : ks.drop k.toNat = ks.getD k.toNat 0 :: ks.drop (k + 1).toNat := by
  have hl : k.toNat < ks.length := by omega
  rw [List.drop_eq_getElem_cons hl, show (k + 1).toNat = k.toNat + 1 by omega, List.getD_eq_getElem?_getD, List.getElem?_eq_getElem hl]
  rfl
theorem read_m1 (h : 0 ≤ k) (h1 : ¬ (ks.length : Int) ≤ k) (h2 : ¬ ks.getD k.toNat 0 = 255) : ansOf ks k = .marker := by
  unfold ansOf
  have e : (ks.drop k.toNat).dropWhile (fun k => k == 255) = ks.drop k.toNat := by
    rw [drop_at h h1, List.dropWhile_cons, if_neg (by simpa using h2)]
  rw [e, if_neg (by rw [drop_at h h1]; simp), if_pos (.inl rfl)]
/-- where the loop stands -/
structure Stands (ks : List Int) (k j : Int) : Prop where
  le : k ≤ j
  len : j ≤ (ks.length : Int)
  at_ : ks.getD k.toNat 0 = 255
  same : (ks.drop k.toNat).dropWhile (fun k => k == 255) = (ks.drop j.toNat).dropWhile (fun k => k == 255)
theorem Stands.start (h1 : ¬ (ks.length : Int) ≤ k) (h2 : ks.getD k.toNat 0 = 255) : Stands ks k k := ⟨Int.le_refl _, by omega, h2, rfl⟩
theorem Stands.step (S : Stands ks k j) (h : 0 ≤ k) (h1 : j < (ks.length : Int)) (h2 : ks.getD j.toNat 0 = 255) : Stands ks k (j + 1) := by
  have := S.le
  refine ⟨by omega, by omega, S.at_, ?_⟩
  rw [S.same, drop_at (k := j) (by omega) (by omega), List.dropWhile_cons, if_pos (by simpa using h2)]
theorem Stands.cut (S : Stands ks k j) (h : 0 ≤ k) (h1 : (ks.length : Int) ≤ j) : ansOf ks k = .cut := by
  unfold ansOf
  rw [S.same, List.drop_eq_nil_of_le (by omega), List.dropWhile_nil, if_pos rfl]
theorem Stands.there (S : Stands ks k j) (h : 0 ≤ k) (h1 : j < (ks.length : Int)) (h2 : ¬ ks.getD j.toNat 0 = 255) :
    ansOf ks k = if ks.getD j.toNat 0 = 0 then .marker else .code (ks.getD j.toNat 0) (j + 1) := by
  have hle := S.le
  have e : (ks.drop k.toNat).dropWhile (fun k => k == 255) = ks.drop j.toNat := by
    rw [S.same, drop_at (k := j) (by omega) (by omega), List.dropWhile_cons, if_neg (by simpa using h2)]
  have ne : ¬ ks.drop j.toNat = ks.drop k.toNat := fun q => by
    have := congrArg (fun l => l.getD 0 0) q
    rw [drop_at (k := j) (by omega) (by omega), drop_at (k := k) h (by omega)] at this
    simp only [List.getD_cons_zero] at this
    rw [S.at_] at this; exact h2 this
  have hd : (ks.drop j.toNat).getD 0 0 = ks.getD j.toNat 0 := by rw [drop_at (k := j) (by omega) (by omega)]; rfl
  unfold ansOf
  rw [e, if_neg (by rw [drop_at (k := j) (by omega) (by omega)]; simp), hd]
  by_cases z : ks.getD j.toNat 0 = 0
  · rw [if_pos (.inr z), if_pos z]
  · rw [if_neg (by rintro (q | q); exact ne q; exact z q), if_neg z, List.length_drop, List.length_drop]
    congr 1
    omega
end

abbrev rdMap (b : Array UInt8) (tb : Tok) (j : Int) (t : Tok) : Str → Option Value := fun z => if z = Str.ofString "at" then some (.int j t) else if z = Str.ofString "octets" then some (.bytes b tb) else none

theorem rd_map (b : Array UInt8) (tb : Tok) (j : Int) (t : Tok) (z : Str) : List.lookup z [(Str.ofString "at", Value.int j t), (Str.ofString "octets", .bytes b tb)] = rdMap b tb j t z := by
  unfold rdMap
  rw [List.lookup_cons, List.lookup_cons, List.lookup_nil]
  by_cases h1 : z = Str.ofString "at"
  · rw [if_pos h1, h1]; rfl
  · rw [if_neg h1, beq_eq_false_iff_ne.mpr h1]
    by_cases h2 : z = Str.ofString "octets"
    · rw [if_pos h2, h2]; rfl
    · rw [if_neg h2, beq_eq_false_iff_ne.mpr h2]
theorem rd_again (b : Array UInt8) (tb : Tok) (j : Int) (t : Tok) (j' : Int) (t' : Tok) (z : Str) : (if z = Str.ofString "at" then some (Value.int j' t') else rdMap b tb j t z) = rdMap b tb j' t' z := by
  unfold rdMap
  by_cases h1 : z = Str.ofString "at"
  · rw [if_pos h1, if_pos h1]
  · rw [if_neg h1, if_neg h1, if_neg h1]
theorem newsNil {g h : Heap} {L : Addr} {m : Str → Option Value} (_F : Fr g L h m) : News g L h [] := fun _ hp => nomatch hp
theorem fr_congr {g h : Heap} {L : Addr} {m m' : Str → Option Value} (F : Fr g L h m) (e : ∀ z, m z = m' z) : Fr g L h m' := (funext e : m = m') ▸ F
/-- the loop's state -/
def RdI (s : Shared) (g : Heap) (L : Addr) (b : Array UInt8) (tb : Tok) (ks : List Int) (k : Int) (n : Nat) (s' : Shared) : Prop :=
  ∃ j t h tk, s' = { s with heap := h, toks := tk } ∧ Fr g L h (rdMap b tb j t) ∧ Stands ks k j ∧ n = ((ks.length : Int) - j).toNat

def RdTurn (s : Shared) (g : Heap) (L : Addr) (b : Array UInt8) (tb : Tok) (ks : List Int) (k : Int) (n : Nat) (f : Flow) (s₃ : Shared) : Prop := f = .next ∧ ∃ k', k' < n ∧ RdI s g L b tb ks k k' s₃
theorem rd_turn {s : Shared} {g h' : Heap} {L : Addr} {b : Array UInt8} {tb tj t : Tok} {ks : List Int} {k j : Int} {n tk : Nat} (S : Stands ks k j) (F : Fr g L h' (fun y => if y = Str.ofString "at" then some (Value.int (j + 1) t) else rdMap b tb j tj y))
    (h0 : 0 ≤ k) (hl : j < (ks.length : Int)) (h2 : ks.getD j.toNat 0 = 255) (hn : n = ((ks.length : Int) - j).toNat) : RdTurn s g L b tb ks k n .next { s with heap := h', toks := tk } :=
  ⟨rfl, ((ks.length : Int) - (j + 1)).toNat, by omega, j + 1, t, h', tk, rfl, fr_congr F (fun z => rd_again b tb j tj (j + 1) t z), S.step h0 hl h2, rfl⟩
theorem read_while {prog : Program} {w : World} {A : Around} {E : Value → Shared → Prop} {env : Env} {test : Expr} {body : List Stmt} {pos : Pos} {Q : Flow → Shared → Prop} {s : Shared} {g h : Heap} {L : Addr} {m : Str → Option Value} {b : Array UInt8} {tb : Tok} {ks : List Int} {k : Int} (t : Tok) {tk : Nat}
    (FF : Fr g L h m) (hm : ∀ z, m z = rdMap b tb k t z) (S : Stands ks k k) (hE : PassesOwn (model prog w) A env E)
    (step : ∀ n s', RdI s g L b tb ks k n s' → wpAny (model prog w) A (isTrue test env (eval test env)) (fun c s₂ => WhlIf c (wpAny (model prog w) A (execs body env) (RdTurn s g L b tb ks k n) E s₂) (wpAny (model prog w) A (execs [] env) Q E s₂)) E s') :
    wpAny (model prog w) A (exec (.While test body [] pos) env) Q E { s with heap := h, toks := tk } :=
  while_rule (RdI s g L b tb ks k) hE step _ ⟨k, t, h, tk, rfl, fr_congr FF hm, S, rfl⟩

section
variable {s : Shared} {base g' h' : Heap} {l : List Env} {ks : List Int} {k : Int} {Q E : Value → Shared → Prop} {e : Addr} {tk' : Nat}
theorem raised_on {cls : Value} (hK : ∀ b o, s.heap.get? b = some o → b ∉ ([] : List Addr) → g'.get? b = some o) (R : RaisedSN base g' l e cls [] h') (U : g'.UpToSlots h') : RaisedSN base s.heap l e cls [] h' ∧ s.heap.UpToSlots h' := by
  obtain ⟨B, a0, hB, hBG, _, hfl⟩ := R
  exact ⟨⟨B, a0, hB, fun b o q nm => hBG b o (hK b o q (by simp)) nm, (fun q hq => nomatch hq), hfl⟩, fun b o q hn => U b o (hK b o q (by simp)) hn⟩
theorem read_cut (hret : ReadPost s base l ks k Q E) (hK : ∀ b o, s.heap.get? b = some o → b ∉ ([] : List Addr) → g'.get? b = some o) (R : RaisedSN base g' l e (.ref 56) [] h') (U : g'.UpToSlots h') (z : ansOf ks k = .cut) :
    E (.ref e) { s with heap := h', toks := tk' } := let r := raised_on hK R U; hret.2.1 e h' tk' z r.1 r.2
theorem read_marker (hret : ReadPost s base l ks k Q E) (hK : ∀ b o, s.heap.get? b = some o → b ∉ ([] : List Addr) → g'.get? b = some o) (R : RaisedSN base g' l e (.ref 44) [] h') (U : g'.UpToSlots h') (z : ansOf ks k = .marker) :
    E (.ref e) { s with heap := h', toks := tk' } := let r := raised_on hK R U; hret.2.2 e h' tk' z r.1 r.2
theorem read_code {a : Addr} {c p : Int} {t1 t2 : Tok} {L' : Addr} {m' : Str → Option Value} (hret : ReadPost s base l ks k Q E) (hK : ∀ b o, s.heap.get? b = some o → b ∉ ([] : List Addr) → g'.get? b = some o) (F : Fr g' L' h' m')
    (N : News g' L' h' [(a, { cls := .type "tuple", data := .seq #[.int c t1, .int p t2] })]) (z : ansOf ks k = .code c p) : Q (.ref a) { s with heap := h', toks := tk' } :=
  hret.1 c p a t1 t2 h' tk' z (fun b o e hb => F.keep b o (hK b o e hb)) (by
    cases q : s.heap.get? a with
    | none => rfl
    | some o => have := hK _ _ q (by simp); rw [(N _ (.head _)).2.2] at this; cases this) (N _ (.head _)).1
end

theorem readC {w : World} {mean : ExcName → Option Value} {mg mb : Str → Option Value} : ReadC w mean mg mb := by
  unfold ReadC
  intro dp un gd cn cs a ccd cl outer A₀ base h₀ L m s Q E b ks k tb tka B F X N T hcs hb hb8 hk hk2 hdp hun hret
  refine wpAny_call ?_
  k_dflt (refine' code_part ?k1 ?k2 ?k3 ?k4 ?k5 ?kA ?kF ?kK ?k6 ?k7 ?k8 ?k9 ?kB ?_ ?c2 ?c3 ?c4 ?c5; (case kA => exact rfl); (case kF => exact rfl); (case kK => assumption); (case k1 => k_asm); (case k2 => k_asm); (case k3 => k_asm); (case k4 => k_asm); (case k5 => k_asm); (case k6 => k_is); (case k7 => k_is); (case k8 => ktr_room); (case k9 => exact BindsTo.of_eq rfl); (case c5 => decide); (case kB => exact locs rfl); (case c2 => exact rfl); (case c3 => exact rfl); (case c4 => exact rfl); k_whole; intro g' L' h' hK1 hK2 F' N' B' X' T'; (try dsimp only); (try k_fold))
  k_steps
  · rename RaisedSN _ _ _ _ _ _ _ => RR
    rename Heap.UpToSlots _ _ => UU
    rename (∀ b o, s.heap.get? b = some o → _ → _) => hKK
    with_unfolding_all refine read_cut (s := s) (Q := Q) (E := E) hret hKK RR UU ?_
    exact read_cut1 hk (by assumption)
  · rename RaisedSN _ _ _ _ _ _ _ => RR
    rename Heap.UpToSlots _ _ => UU
    rename (∀ b o, s.heap.get? b = some o → _ → _) => hKK
    with_unfolding_all refine read_marker (s := s) (Q := Q) (E := E) hret hKK RR UU ?_
    exact read_m1 hk (by assumption) (by assumption)
  · unfold Hold
    rename Fr _ _ _ _ => FF
    rename (∀ b o, s.heap.get? b = some o → _ → _) => hKK
    with_unfolding_all refine read_while (s := s) (ks := ks) (k := k) (b := b) (tb := tb) tka FF ?hm (Stands.start (by assumption) (by assumption)) ?hE ?step
    case hm => exact fun z => by with_unfolding_all exact rd_map b tb k tka z
    case hE => first | passes_own | with_unfolding_all passes_own
    case step =>
      rintro n' s' ⟨j, tj, hj, tkj, rfl, FJ, SJ, hn'⟩
      have NJ := newsNil FJ
      have hj0 : 0 ≤ j := Int.le_trans hk SJ.le
      have hjl := SJ.len
      k_steps
      · rename Fr _ _ _ _ => FF9
        with_unfolding_all exact rd_turn (s := s) SJ FF9 hk (by assumption) (by assumption) hn'
      · rename RaisedSN _ _ _ _ _ _ _ => RR
        rename Heap.UpToSlots _ _ => UU
        with_unfolding_all refine read_marker (s := s) (Q := Q) (E := E) hret hKK RR UU ?_
        rw [SJ.there hk (by assumption) (by assumption), if_pos (by assumption)]
      · rename News _ _ _ _ => NN
        rename Fr _ _ _ _ => FF9
        with_unfolding_all refine read_code (s := s) (Q := Q) (E := E) hret hKK FF9 NN ?_
        rw [SJ.there hk (by assumption) (by assumption), if_neg (by assumption)]
      · rename RaisedSN _ _ _ _ _ _ _ => RR
        rename Heap.UpToSlots _ _ => UU
        with_unfolding_all refine read_cut (s := s) (Q := Q) (E := E) hret hKK RR UU ?_
        exact SJ.cut hk (by omega)
end Mine
end R2Part

section T1Part
open PySem PySem.W PySem.Calls PyProof.Rows
namespace Mine
theorem read_use {w : World} {mean : ExcName → Option Value} {mg mb : Str → Option Value} {dp un : Nat} {gd : Option (List Code)} {cn : Str} {cs : Scope} {a : Addr} {ccd : Value} {cl : List (Str × Addr)} {outer : List Env} {A₀ : Around} {base h₀ : Heap} {L : Addr} {m : Str → Option Value} {s : Shared} {Q E : Value → Shared → Prop}
    {b : Array UInt8} {ks : List Int} {k : Int} {tb tk : Tok}
    (B : Below A₀ base outer h₀) (F : Fr h₀ L s.heap m) (X : (hd.heap_39 w.params).In h₀) (T : Top hd.view_39 (looseW hd.view_39 []) mean mg mb h₀) (hcs : cs.kind = .function)
    (hb : KBw.bInts b = ks) (hb8 : ks.length ≤ 8) (hk : 0 ≤ k) (hk2 : k < 1000) (hd : dp + 3 < recursionLimit) (hu : un + 30 < cLine)
    (hret : ReadPost s base (envX cn cs L a ccd cl :: outer) ks k Q E) :
    wpAny (model PySem.Challenge.rw_xm0798_01.row.prog w) (ktrTop dp un gd cn cs L a ccd cl outer) (call (.ref 65) [.bytes b tb, .int k tk]) Q E s :=
  readC _ _ _ _ _ _ _ _ _ _ _ _ _ _ _ _ _ _ _ _ _ _ B F X (fun _ h => nomatch h) T hcs hb hb8 hk hk2 hd hu hret

def KeptL (L : Addr) (h h' : Heap) : Prop := (∀ b o, h.get? b = some o → b ≠ L → h'.get? b = some o) ∧ ∀ o, h.get? L = some o → ∃ sl, h'.get? L = some { o with slots := sl }
def AnsPostL (s : Shared) (L : Addr) (ks : List Int) (k : Int) (Q : Value → Shared → Prop) : Prop :=
  ∀ v h' tk', KeptL L s.heap h' → AnsAt s.heap h' v (ansOf ks k) → Q v { s with heap := h', toks := tk' }
def ToldC (w : World) (mean : ExcName → Option Value) (mg mb : Str → Option Value) : Prop :=
  ∀ (dp un : Nat) (gd : Option (List Code)) (cn : Str) (cs : Scope) (a : Addr) (ccd : Value) (cl : List (Str × Addr)) (A₀ : Around) (base h₀ : Heap) (L : Addr) (m : Str → Option Value) (s : Shared) (Q E : Value → Shared → Prop)
    (b : Array UInt8) (ks : List Int) (k : Int) (tb tk : Tok),
    Below A₀ base [] h₀ → Fr h₀ L s.heap m → (hd.heap_39 w.params).In h₀ → News h₀ L s.heap [] → Top hd.view_39 (looseW hd.view_39 []) mean mg mb h₀ → (hd.heap_39 w.params).In base → Top hd.view_39 (looseW hd.view_39 []) mean mg mb base → cs.kind = .function →
    KBw.bInts b = ks → ks.length ≤ 8 → 0 ≤ k → k < 1000 → dp + 5 < recursionLimit → un + 50 < cLine → AnsPostL s L ks k Q →
    wpAny (model PySem.Challenge.rw_xm0798_01.row.prog w) (ktrTop dp un gd cn cs L a ccd cl []) (call (.ref 93) [.bytes b tb, .int k tk]) Q E s

theorem told_dicts {h₀ h g : Heap} {L : Addr} {m : Str → Option Value} {env : Env} (F : Fr h₀ L h m) (hK : ∀ b o, h.get? b = some o → b ∉ ([] : List Addr) → g.get? b = some o) (hf : env.frame = some L) : KtsDicts ([env].filterMap (·.frame)) g := by
  intro b hb
  obtain ⟨e, he, hf'⟩ := List.mem_filterMap.mp hb
  obtain rfl := List.mem_singleton.mp he
  obtain rfl : L = b := Option.some.inj (hf.symm.trans hf')
  obtain ⟨o, es, ep, ho, hd, _⟩ := F.ns
  exact ⟨o, es, ep, hK _ _ ho (by simp), hd⟩

local macro_rules | `(tactic| walk_at "call ref") => `(tactic| (k_here; (with_reducible show wpAny _ _ (call (Value.ref _) [Value.bytes _ _, Value.int _ _]) _ _ _); k_dflt
  (refine' Mine.read_use ?B ?F ?X ?T ?hk ?h1 ?h2 ?h3 ?h4 ?d ?u ?_; (case B => k_asm); (case F => k_asm); (case X => k_asm); (case T => k_asm); (case hk => first | exact rfl | assumption); (case h1 => assumption); (case h2 => assumption); (case h3 => assumption); (case h4 => assumption); (case d => ktr_room); (case u => ktr_units); k_whole)))

section
variable {s : Shared} {L L' : Addr} {ks : List Int} {k : Int} {Q : Value → Shared → Prop} {gold gnew hm h' : Heap} {m' : Str → Option Value} {env : Env} {tk' : Nat} {t : Tok}
theorem told_kept (hK : ∀ b o, s.heap.get? b = some o → b ∉ ([] : List Addr) → gold.get? b = some o) (hf : env.frame = some L) (T : KtsTurn ([env].filterMap (·.frame)) gold gnew) (F : Fr gnew L' h' m') : KeptL L s.heap h' := by
  have hfs : [env].filterMap (·.frame) = [L] := by simp [hf]
  rw [hfs] at T
  refine ⟨fun b o hb hL => F.keep b o (T.other b o (hK b o hb (by simp)) (by simpa using hL)), fun o ho => ?_⟩
  obtain ⟨sl, hs⟩ := T.frame L o (hK L o ho (by simp)) (by simp)
  exact ⟨sl, F.keep _ _ hs⟩
theorem told_cut (hret : AnsPostL s L ks k Q) (hK : ∀ b o, s.heap.get? b = some o → b ∉ ([] : List Addr) → gold.get? b = some o) (hf : env.frame = some L) (T : KtsTurn ([env].filterMap (·.frame)) gold gnew) (F : Fr gnew L' h' m') (z : ansOf ks k = .cut) :
    Q (.str (Str.ofString "cut") t) { s with heap := h', toks := tk' } := hret _ h' tk' (told_kept hK hf T F) (by rw [z]; exact ⟨t, rfl⟩)
theorem told_marker (hret : AnsPostL s L ks k Q) (hK : ∀ b o, s.heap.get? b = some o → b ∉ ([] : List Addr) → gold.get? b = some o) (hf : env.frame = some L) (T : KtsTurn ([env].filterMap (·.frame)) gold gnew) (F : Fr gnew L' h' m') (z : ansOf ks k = .marker) :
    Q (.str (Str.ofString "marker") t) { s with heap := h', toks := tk' } := hret _ h' tk' (told_kept hK hf T F) (by rw [z]; exact ⟨t, rfl⟩)
theorem told_code {c p : Int} {aa : Addr} {t1 t2 : Tok} (hret : AnsPostL s L ks k Q) (hK : ∀ b o, s.heap.get? b = some o → b ∉ ([] : List Addr) → gold.get? b = some o) (F : Fr gold L' hm m') (hkept : Kept [] hm h') (hfresh : hm.get? aa = none)
    (hthere : h'.get? aa = some { cls := .type "tuple", data := .seq #[.int c t1, .int p t2] }) (z : ansOf ks k = .code c p) : Q (.ref aa) { s with heap := h', toks := tk' } := by
  have up : ∀ b o, s.heap.get? b = some o → hm.get? b = some o := fun b o q => F.keep b o (hK b o q (by simp))
  refine hret _ h' tk' ⟨fun b o hb _ => hkept b o (up b o hb) (by simp), fun o ho => ⟨o.slots, hkept L o (up L o ho) (by simp)⟩⟩ ?_
  rw [z]
  refine ⟨aa, t1, t2, rfl, ?_, hthere⟩
  cases q : s.heap.get? aa with
  | none => rfl
  | some o => rw [up _ _ q] at hfresh; cases hfresh
end

theorem toldC {w : World} {mean : ExcName → Option Value} {mg mb : Str → Option Value} : ToldC w mean mg mb := by
  unfold ToldC
  intro dp un gd cn cs a ccd cl A₀ base h₀ L m s Q E b ks k tb tka B F X N T XB TB hcs hb hb8 hk hk2 hdp hun hret
  refine wpAny_call ?_
  k_dflt (refine' code_part ?k1 ?k2 ?k3 ?k4 ?k5 ?kA ?kF ?kK ?k6 ?k7 ?k8 ?k9 ?kB ?_ ?c2 ?c3 ?c4 ?c5; (case kA => exact rfl); (case kF => exact rfl); (case kK => assumption); (case k1 => k_asm); (case k2 => k_asm); (case k3 => k_asm); (case k4 => k_asm); (case k5 => k_asm); (case k6 => k_is); (case k7 => k_is); (case k8 => ktr_room); (case k9 => exact BindsTo.of_eq rfl); (case c5 => decide); (case kB => exact locs rfl); (case c2 => exact rfl); (case c3 => exact rfl); (case c4 => exact rfl); k_whole; intro g' L' h' hK1 hK2 F' N' B' X' T'; (try dsimp only); (try k_fold))
  rename (∀ b o, s.heap.get? b = some o → _ → _) => hKK
  have D := told_dicts (env := envX cn cs L a ccd cl) F hKK rfl
  k_steps
  refine ⟨?_, ?_, ?_⟩
  · intro c p aa t1 t2 h' tk' hans hkept hfresh hthere
    k_steps
    rename Fr _ _ _ _ => FF
    with_unfolding_all exact told_code (s := s) (Q := Q) hret hKK FF hkept hfresh hthere hans
  · intro e h' tk' hans R' U'
    k_steps
    rename Fr _ _ _ _ => FF
    rename KtsTurn _ _ _ => TT
    with_unfolding_all exact told_cut (s := s) (Q := Q) (env := envX cn cs L a ccd cl) hret hKK rfl TT FF hans
  · intro e h' tk' hans R' U'
    k_steps
    rename Fr _ _ _ _ => FF
    rename KtsTurn _ _ _ => TT
    with_unfolding_all exact told_marker (s := s) (Q := Q) (env := envX cn cs L a ccd cl) hret hKK rfl TT FF hans
end Mine
end T1Part

section RFPart
open PySem PySem.W PySem.Calls PyProof.Rows
namespace Mine
def ReefC (w : World) (mean : ExcName → Option Value) (mg mb : Str → Option Value) : Prop :=
  ∀ (dp un : Nat) (gd : Option (List Code)) (cn : Str) (cs : Scope) (a : Addr) (ccd : Value) (cl : List (Str × Addr)) (outer : List Env) (A₀ : Around) (base h₀ : Heap) (L : Addr) (m : Str → Option Value) (s : Shared) (Q E : Value → Shared → Prop)
    (l : Addr) (vs : List Value) (ns : List Int),
    Below A₀ base outer h₀ → Fr h₀ L s.heap m → (hd.heap_39 w.params).In h₀ → News h₀ L s.heap [] → Top hd.view_39 (looseW hd.view_39 []) mean mg mb h₀ → cs.kind = .function →
    base.IsList l vs.toArray → IntsAre vs ns → ns.length < 1000 → dp + 1 < recursionLimit → un + 8 < cLine →
    (∀ R x y tx ty n h' tk', Kept [] s.heap h' → s.heap.get? R = none → h'.get? R = some (listOf #[.int x tx, .int y ty] n) → 0 ≤ x → 0 ≤ y → y < 70000 → Q (.ref R) { s with heap := h', toks := tk' }) →
    wpAny (model PySem.Challenge.rw_xm0798_01.row.prog w) (ktrTop dp un gd cn cs L a ccd cl outer) (call (.ref 72) [.ref l]) Q E s
theorem reef_end {s : Shared} {Q : Value → Shared → Prop} {g' h' : Heap} {L' R : Addr} {m' : Str → Option Value} {x z : Int} {tx ty : Tok} {n tk' : Nat}
    (hret : ∀ R x y tx ty n h' tk', Kept [] s.heap h' → s.heap.get? R = none → h'.get? R = some (listOf #[.int x tx, .int y ty] n) → 0 ≤ x → 0 ≤ y → y < 70000 → Q (.ref R) { s with heap := h', toks := tk' })
    (hK : ∀ b o, s.heap.get? b = some o → b ∉ ([] : List Addr) → g'.get? b = some o) (F : Fr g' L' h' m') (N : News g' L' h' [(R, listOf #[.int x tx, .int (Int.fmod z 65287 + 73) ty] n)]) (hx : 0 ≤ x) : Q (.ref R) { s with heap := h', toks := tk' } := by
  have hz : Int.fmod z 65287 = z % 65287 := Int.fmod_eq_emod_of_nonneg _ (by omega)
  refine hret R x _ tx ty n h' tk' (fun b o e hb => F.keep b o (hK b o e hb)) ?_ (N _ (.head _)).1 hx (by omega) (by omega)
  cases q : s.heap.get? R with
  | none => rfl
  | some o => have := hK _ _ q (by simp); rw [(N _ (.head _)).2.2] at this; cases this
theorem reefC {w : World} {mean : ExcName → Option Value} {mg mb : Str → Option Value} : ReefC w mean mg mb := by
  unfold ReefC
  intro dp un gd cn cs a ccd cl outer A₀ base h₀ L m s Q E l vs ns B F X N T hcs hl hi hlen hdp hun hret
  refine wpAny_call ?_
  k_dflt (refine' code_part ?k1 ?k2 ?k3 ?k4 ?k5 ?kA ?kF ?kK ?k6 ?k7 ?k8 ?k9 ?kB ?_ ?c2 ?c3 ?c4 ?c5; (case kA => exact rfl); (case kF => exact rfl); (case kK => assumption); (case k1 => k_asm); (case k2 => k_asm); (case k3 => k_asm); (case k4 => k_asm); (case k5 => k_asm); (case k6 => k_is); (case k7 => k_is); (case k8 => ktr_room); (case k9 => exact BindsTo.of_eq rfl); (case c5 => decide); (case kB => exact locs rfl); (case c2 => exact rfl); (case c3 => exact rfl); (case c4 => exact rfl); k_whole; intro g' L' h' hK1 hK2 F' N' B' X' T'; (try dsimp only); (try k_lift B'); (try k_fold))
  k_steps
  all_goals
    rename News _ _ _ _ => NN
    rename Fr _ _ _ _ => FF
    rename (∀ b o, s.heap.get? b = some o → _ → _) => hKK
    with_unfolding_all refine reef_end (s := s) (Q := Q) hret hKK FF NN ?_
    clear NN FF hKK hret
  all_goals omega
end Mine
end RFPart

section U1Part
open PySem PySem.W PySem.Calls PyProof.Rows
namespace Mine
section
variable {w : World} {mean : ExcName → Option Value} {mg mb : Str → Option Value} {dp un : Nat} {gd : Option (List Code)} {cn : Str} {cs : Scope} {a : Addr} {ccd : Value} {cl : List (Str × Addr)} {outer : List Env} {A₀ : Around} {base h₀ : Heap} {L : Addr} {m : Str → Option Value} {s : Shared} {Q E : Value → Shared → Prop} {news : List (Addr × Obj)}

theorem kept_news {hide : List Addr} {h h' : Heap} (N : News h₀ L h news) (k : Kept hide h h') (hn : ∀ p ∈ news, p.1 ∉ hide) : News h₀ L h' news := fun p hp => ⟨k _ _ (N p hp).1 (hn p hp), (N p hp).2⟩
theorem kept_frame {hide : List Addr} {h h' : Heap} (F : Fr h₀ L h m) (k : Kept hide h h') (hL : L ∉ hide) (h0 : ∀ b ∈ hide, h₀.get? b = none) : Fr h₀ L h' m :=
  ⟨F.ns.at' fun o q => k L o q hL, fun b o q => k b o (F.keep b o q) (fun z => by rw [h0 b z] at q; cases q), F.above⟩

theorem shell_use {R : Addr} {x y k : Int} {tx ty tk : Tok} {n : Nat} {g : Obj → List (Addr × Obj)}
    (B : Below A₀ base outer h₀) (F : Fr h₀ L s.heap m) (X : (hd.heap_39 w.params).In h₀) (N : News h₀ L s.heap news) (T : Top hd.view_39 (looseW hd.view_39 []) mean mg mb h₀) (hcs : cs.kind = .function)
    (U : UpdF R (listOf #[.int x tx, .int y ty] n) news g)
    (hx : 0 ≤ x) (hy : 0 ≤ y) (hy2 : y < 70000) (hk : 0 < k) (hk2 : k < 1000) (hd : dp + 1 < recursionLimit) (hu : un + 8 < cLine)
    (hret : ∀ r tr x' y' tx' ty' n' h' tk', Fr h₀ L h' m → News h₀ L h' (g (listOf #[.int x' tx', .int y' ty'] n')) → 0 ≤ r → r < k → 0 ≤ x' → 0 ≤ y' → y' < 70000 → Q (.int r tr) { s with heap := h', toks := tk' }) :
    wpAny (model PySem.Challenge.rw_xm0798_01.row.prog w) (ktrTop dp un gd cn cs L a ccd cl outer) (call (.ref 79) [.ref R, .int k tk]) Q E s := by
  obtain ⟨pre, post, rfl, hg, h1, h2⟩ := U.split
  have hm : (R, listOf #[.int x tx, .int y ty] n) ∈ pre ++ (R, listOf #[.int x tx, .int y ty] n) :: post := List.mem_append_right _ (.head _)
  have NR := N _ hm
  refine shellC _ _ _ _ _ _ _ _ _ _ _ _ _ _ _ _ _ _ _ _ _ _ _ _ _ B F X (fun p hp => by obtain rfl := List.mem_singleton.mp hp; exact NR) T hcs hx hy hy2 hk hk2 hd hu ?_
  intro r tr x' y' tx' ty' n' h' tk' hkp hR hr0 hr1 hx' _ hy' hy2'
  refine hret r tr x' y' tx' ty' n' h' tk' (kept_frame F hkp (by simpa using fun z => NR.2.1 z.symm) (fun b hb => by rw [List.mem_singleton.mp hb]; exact NR.2.2)) ?_ hr0 hr1 hx' hy' hy2'
  rw [hg]
  intro p hp
  rcases List.mem_append.mp hp with hp | hp
  · have := N p (List.mem_append_left _ hp)
    exact ⟨hkp _ _ this.1 (by simpa using h1 p hp), this.2⟩
  · rcases List.mem_cons.mp hp with rfl | hp
    · exact ⟨hR, NR.2⟩
    · have := N p (List.mem_append_right _ (.tail _ hp))
      exact ⟨hkp _ _ this.1 (by simpa using h2 p hp), this.2⟩

theorem reef_use {l : Addr} {vs : List Value} {ns : List Int}
    (B : Below A₀ base outer h₀) (F : Fr h₀ L s.heap m) (X : (hd.heap_39 w.params).In h₀) (N : News h₀ L s.heap news) (T : Top hd.view_39 (looseW hd.view_39 []) mean mg mb h₀) (hcs : cs.kind = .function)
    (hl : base.IsList l vs.toArray) (hi : IntsAre vs ns) (hlen : ns.length < 1000) (hd : dp + 1 < recursionLimit) (hu : un + 8 < cLine)
    (hret : ∀ R x y tx ty n h' tk', Fr h₀ L h' m → News h₀ L h' ((R, listOf #[.int x tx, .int y ty] n) :: news) → (∀ p ∈ news, p.1 ≠ R) → 0 ≤ x → 0 ≤ y → y < 70000 → Q (.ref R) { s with heap := h', toks := tk' }) :
    wpAny (model PySem.Challenge.rw_xm0798_01.row.prog w) (ktrTop dp un gd cn cs L a ccd cl outer) (call (.ref 72) [.ref l]) Q E s := by
  refine reefC _ _ _ _ _ _ _ _ _ _ _ _ _ _ _ _ _ _ _ _ B F X (fun _ h => nomatch h) T hcs hl hi hlen hd hu ?_
  intro R x y tx ty n h' tk' hkp hfr hR hx hy hy2
  have hRL : R ≠ L := fun z => by obtain ⟨oL, _, _, q, _⟩ := F.ns; rw [z, q] at hfr; cases hfr
  have h0 : h₀.get? R = none := by
    cases q : h₀.get? R with
    | none => rfl
    | some o => rw [F.keep _ _ q] at hfr; cases hfr
  refine hret R x y tx ty n h' tk' (kept_frame F hkp (by simp) (by simp)) ?_ (fun p hp z => by have := (N p hp).1; rw [z, hfr] at this; cases this) hx hy hy2
  intro p hp
  rcases List.mem_cons.mp hp with rfl | hp
  · exact ⟨hR, hRL, h0⟩
  · exact ⟨hkp _ _ (N p hp).1 (by simp), (N p hp).2⟩

theorem due_use {b : Array UInt8} {ks : List Int} {k : Int} {tb tk : Tok}
    (B : Below A₀ base outer h₀) (F : Fr h₀ L s.heap m) (X : (hd.heap_39 w.params).In h₀) (N : News h₀ L s.heap news) (T : Top hd.view_39 (looseW hd.view_39 []) mean mg mb h₀) (hcs : cs.kind = .function)
    (hb : KBw.bInts b = ks) (hb8 : ks.length ≤ 8) (hk : 0 ≤ k) (hk2 : k < 1000) (hd : dp + 1 < recursionLimit) (hu : un + 8 < cLine)
    (hret : ∀ v h' tk', Fr h₀ L h' m → News h₀ L h' news → Kept [] s.heap h' → AnsAt s.heap h' v (ansOf ks k) → Q v { s with heap := h', toks := tk' }) :
    wpAny (model PySem.Challenge.rw_xm0798_01.row.prog w) (ktrTop dp un gd cn cs L a ccd cl outer) (call (.ref 86) [.bytes b tb, .int k tk]) Q E s := by
  refine dueC _ _ _ _ _ _ _ _ _ _ _ _ _ _ _ _ _ _ _ _ _ _ B F X (fun _ h => nomatch h) T hcs hb hb8 hk hk2 hd hu ?_
  intro v h' tk' hkp hv
  exact hret v h' tk' (kept_frame F hkp (by simp) (by simp)) (kept_news N hkp (by simp)) hkp hv

theorem told_use {b : Array UInt8} {ks : List Int} {k : Int} {tb tk : Tok}
    (B : Below A₀ base [] h₀) (F : Fr h₀ L s.heap m) (X : (hd.heap_39 w.params).In h₀) (N : News h₀ L s.heap news) (T : Top hd.view_39 (looseW hd.view_39 []) mean mg mb h₀) (XB : (hd.heap_39 w.params).In base) (TB : Top hd.view_39 (looseW hd.view_39 []) mean mg mb base) (hcs : cs.kind = .function)
    (hb : KBw.bInts b = ks) (hb8 : ks.length ≤ 8) (hk : 0 ≤ k) (hk2 : k < 1000) (hd : dp + 5 < recursionLimit) (hu : un + 50 < cLine)
    (hret : ∀ v h' tk', Fr h₀ L h' m → News h₀ L h' news → AnsAt s.heap h' v (ansOf ks k) → Q v { s with heap := h', toks := tk' }) :
    wpAny (model PySem.Challenge.rw_xm0798_01.row.prog w) (ktrTop dp un gd cn cs L a ccd cl []) (call (.ref 93) [.bytes b tb, .int k tk]) Q E s := by
  refine toldC _ _ _ _ _ _ _ _ _ _ _ _ _ _ _ _ _ _ _ _ _ B F X (fun _ h => nomatch h) T XB TB hcs hb hb8 hk hk2 hd hu ?_
  intro v h' tk' hkp hv
  have hL0 : h₀.get? L = none := Heap.get?_none_of_le F.above
  refine hret v h' tk' ⟨?_, fun b o q => hkp.1 b o (F.keep b o q) (fun z => by rw [z, hL0] at q; cases q), F.above⟩ (fun p hp => ⟨hkp.1 _ _ (N p hp).1 (N p hp).2.1, (N p hp).2⟩) hv
  obtain ⟨oL, es, ep, ho, hdd, hr⟩ := F.ns
  obtain ⟨sl, hs⟩ := hkp.2 oL ho
  exact ⟨_, es, ep, hs, hdd, hr⟩
end

theorem ansAt_kept {hA h h' : Heap} {v : Value} {ans : Ans} (x : AnsAt hA h v ans) (k : Kept [] h h') : AnsAt hA h' v ans := by
  cases ans with
  | cut => exact x
  | marker => exact x
  | code c p =>
    obtain ⟨a, t1, t2, hv, hn, ht⟩ := x
    exact ⟨a, t1, t2, hv, hn, k _ _ ht (by simp)⟩
end Mine
end U1Part

section U2Part
open PySem PySem.W PySem.Calls PyProof.Rows
namespace Mine
theorem ne_ans {prog : Program} {w : World} {A : Around} {E : Value → Shared → Prop} {s : Shared} {hA hB : Heap} {v v' : Value} {ans : Ans} {Q : Value → Shared → Prop} (hu : A.units + 64 < cLine) (h1 : AnsAt hA s.heap v ans) (h2 : AnsAt hB s.heap v' ans) (h : Q (.bool false) s) :
    wpAny (model prog w) A (compareOp .NotEq v v') Q E s := by
  cases ans with
  | cut =>
    obtain ⟨t, rfl⟩ := h1
    obtain ⟨t', rfl⟩ := h2
    refine PyProof.Rows.ne_str ?_
    rw [bne_self_eq_false]; exact h
  | marker =>
    obtain ⟨t, rfl⟩ := h1
    obtain ⟨t', rfl⟩ := h2
    refine PyProof.Rows.ne_str ?_
    rw [bne_self_eq_false]; exact h
  | code c p =>
    obtain ⟨a, t1, t2, rfl, _, h3⟩ := h1
    obtain ⟨a', t1', t2', rfl, _, h4⟩ := h2
    refine ne_dataH (da := .tuple [.int c, .int p]) (db := .tuple [.int c, .int p]) (reads_tuple_at h3 rfl rfl (ReadsAll.cons (Reads.int _ _) (ReadsAll.cons (Reads.int _ _) ReadsAll.nil))) (reads_tuple_at h4 rfl rfl (ReadsAll.cons (Reads.int _ _) (ReadsAll.cons (Reads.int _ _) ReadsAll.nil))) (by rfl) (by rfl) hu ?_
    simp only [PyData.eqv, PyData.eqvAll, decide_true, Bool.and_true, Bool.not_true, beq_self_eq_true]
    exact h
end Mine
end U2Part

section U3Part
open PySem PySem.W PySem.Calls PyProof.Rows
namespace Mine
section
variable {prog : Program} {w : World} {A : Around} {E : Value → Shared → Prop} {s : Shared} {env : Env} {h₀ : Heap} {x : Str} {body : List Stmt} {Q : Flow → Shared → Prop} {I : Addr} {a : Int} {n : Nat}

theorem range_inv (J : List (Addr × Obj) → Prop)
    (turn : ∀ (i : Nat) (t : Tok) (h : Heap) (tk : Nat) (m : Str → Option Value) (news : List (Addr × Obj)), J news → Fr h₀ env.locals h (fun y => if y = x then some (.int (a + (i : Int)) t) else m y) →
      News h₀ env.locals h ((I, itR (a + ((i + 1 : Nat) : Int)) ((n : Int) - ((i + 1 : Nat) : Int))) :: news) →
      wpAny (model prog w) A (execs body env) (UnrPost h₀ env.locals { s with heap := h, toks := tk } I (itR (a + ((i + 1 : Nat) : Int)) ((n : Int) - ((i + 1 : Nat) : Int))) (fun _ news' => J news') Q) E { s with heap := h, toks := tk })
    (done : ∀ (h : Heap) (tk : Nat) (m : Str → Option Value) (news : List (Addr × Obj)), J news → Fr h₀ env.locals h m → News h₀ env.locals h news → Q .next { s with heap := h, toks := tk }) :
    ∀ (k i : Nat) (m : Str → Option Value) (news : List (Addr × Obj)), J news → RangeRest prog w A E h₀ env x body Q s I a n k i m news
  | 0, _, m, news, hJ => RangeRest.zero fun h tk F N => done h tk m news hJ F N
  | k + 1, i, m, news, hJ => RangeRest.succ fun t h tk F N => wpAny_mono (turn i t h tk m news hJ F N) (fun f s₂ p => by
      have up : UnrEnd h₀ env.locals { s with heap := h, toks := tk } I (itR (a + ((i + 1 : Nat) : Int)) ((n : Int) - ((i + 1 : Nat) : Int))) (fun _ news' => J news') s₂ →
          UnrEnd h₀ env.locals { s with heap := h, toks := tk } I (itR (a + ((i + 1 : Nat) : Int)) ((n : Int) - ((i + 1 : Nat) : Int))) (RangeRest prog w A E h₀ env x body Q s I a n k (i + 1)) s₂ := by
        rintro ⟨h', tk', m', news', e, F', N', ho, r⟩
        exact ⟨h', tk', m', news', e, F', N', ho, range_inv J turn done k (i + 1) m' news' r⟩
      cases f with
      | ret v => exact p
      | brk => exact p
      | next => exact up p
      | cont => exact up p) fun _ _ e => e
end

/-- the law's own ledger between two turns: the reef, the two cells -/
def LawJ (R cL cR : Addr) (news : List (Addr × Obj)) : Prop :=
  ∃ (x y : Int) (tx ty : Tok) (n : Nat) (oL oR : Obj) (vL : Option Value), news = [(R, listOf #[.int x tx, .int y ty] n), (cL, oL), (cR, oR)] ∧ oL.data = .cell vL ∧ oR.data = .cell (some (.ref R)) ∧ 0 ≤ x ∧ 0 ≤ y ∧ y < 70000
theorem lawJ_start {R cL cR : Addr} {x y : Int} {tx ty : Tok} {n : Nat} {oL oR : Obj} {vL : Option Value} (h1 : oL.data = .cell vL) (h2 : oR.data = .cell (some (.ref R))) (hx : 0 ≤ x) (hy : 0 ≤ y) (hyy : y < 70000) :
    LawJ R cL cR [(R, listOf #[.int x tx, .int y ty] n), (cL, oL), (cR, oR)] := ⟨x, y, tx, ty, n, oL, oR, vL, rfl, h1, h2, hx, hy, hyy⟩
/-- .. within a turn: the lot stands in its cell, the turns' own object ahead -/
def LotJ (p0 : Addr × Obj) (R cL cR : Addr) (oL oR : Obj) (news : List (Addr × Obj)) : Prop :=
  ∃ (x y : Int) (tx ty : Tok) (n : Nat), news = [p0, (R, listOf #[.int x tx, .int y ty] n), (cL, oL), (cR, oR)] ∧ 0 ≤ x ∧ 0 ≤ y ∧ y < 70000
theorem lotJ_start {p0 : Addr × Obj} {R cL cR : Addr} {x y : Int} {tx ty : Tok} {n : Nat} {oL oR : Obj} (hx : 0 ≤ x) (hy : 0 ≤ y) (hyy : y < 70000) :
    LotJ p0 R cL cR oL oR [p0, (R, listOf #[.int x tx, .int y ty] n), (cL, oL), (cR, oR)] := ⟨x, y, tx, ty, n, rfl, hx, hy, hyy⟩

section
variable {prog : Program} {w : World} {A : Around} {h₀ : Heap} {L : Addr} {m : Str → Option Value} {env : Env} {elt : Expr} {x : Str} {scope : Scope} {cl : List (Str × Addr)} {s : Shared} {P : Nat → Value → Prop} {Fin : List Value → List (Addr × Obj) → Prop}

def LotEl (J : List (Addr × Obj) → Prop) (y : Value) (news' : List (Addr × Obj)) : Prop := J news' ∧ ∃ k t, y = .int k t ∧ 0 ≤ k ∧ k < 256
theorem comp_inv (J : List (Addr × Obj) → Prop) (T : Nat)
    (turn : ∀ v I oI C oC D m₂ ys news h tk (E' : Value → Shared → Prop), J news → LCg.NsObj oC m₂ → m₂ x = some v → Fr h₀ L h m → News h₀ L h ((I, oI) :: (C, oC) :: (D, LCg.lst ys) :: news) → LCg.Off3 I C D news → ((@Ne Nat I C) ∧ (@Ne Nat I D) ∧ (@Ne Nat C D)) →
      wpAny (model prog w) A (eval elt (compEnvC scope cl C env)) (LCg.CompEnd h₀ L m { s with heap := h, toks := tk } I oI C oC D (LCg.lst ys) (fun _ => True) (LotEl J)) E' { s with heap := h, toks := tk })
    (fin : ∀ ys ns news, J news → IntsAre ys ns → KBa.In ns → ns.length = T → Fin ys news) :
    ∀ (k i : Nat) (ys : List Value) (ns : List Int) (news : List (Addr × Obj)), J news → IntsAre ys ns → KBa.In ns → ns.length + k = T → LCg.CompRest prog w A h₀ L m env elt x scope cl s (fun _ => True) P Fin k i ys news
  | 0, _, ys, ns, news, hJ, hi, hin, hT => LCg.CompRest.zero (fin ys ns news hJ hi hin (by omega))
  | k + 1, i, ys, ns, news, hJ, hi, hin, hT => LCg.CompRest.succ fun v I oI C oC D m₂ h tk E' _ hC hx F N off ne =>
      wpAny_mono (turn v I oI C oC D m₂ ys news h tk E' hJ hC hx F N off ne) (fun y s₂ q => by
        obtain ⟨h', tk', nw, e, F', N', off', hS, hJ', c, t, rfl, h0, h1⟩ := q
        refine ⟨h', tk', nw, e, F', N', off', hS, comp_inv J T turn fin k (i + 1) _ (ns ++ [c]) nw hJ' (IntsAre.append hi (.cons c t .nil)) (fun z hz => ?_) (by rw [List.length_append, List.length_singleton]; omega)⟩
        rcases List.mem_append.mp hz with hz | hz
        · exact hin z hz
        · rw [List.mem_singleton.mp hz]; exact ⟨h0, h1⟩) fun _ _ e => e

theorem comp_src {FinS : Shared → List Value → List (Addr × Obj) → Prop} {r : Addr} {b : Int} {t u v : Tok} {news : List (Addr × Obj)} {s₁ : Shared} (J : List (Addr × Obj) → Prop)
    (hh : A.handled = none) (F : Fr h₀ L s₁.heap m) (N : News h₀ L s₁.heap news) (hr : IsRange s₁.heap r 0 b 1 t u v) (hb0 : 0 ≤ b) (hb1 : b < 9) (hJ : J news)
    (turn : ∀ v I oI C oC D m₂ ys news h tk (E' : Value → Shared → Prop), J news → LCg.NsObj oC m₂ → m₂ x = some v → Fr h₀ L h m → News h₀ L h ((I, oI) :: (C, oC) :: (D, LCg.lst ys) :: news) → LCg.Off3 I C D news → ((@Ne Nat I C) ∧ (@Ne Nat I D) ∧ (@Ne Nat C D)) →
      wpAny (model prog w) A (eval elt (compEnvC scope cl C env)) (LCg.CompEnd h₀ L m { s₁ with heap := h, toks := tk } I oI C oC D (LCg.lst ys) (fun _ => True) (LotEl J)) E' { s₁ with heap := h, toks := tk })
    (fin : ∀ g ys ns news, J news → IntsAre ys ns → KBa.In ns → ns.length ≤ 8 → FinS { s₁ with heap := g } ys news) :
    LCg.CompSrc prog w A h₀ L m env elt x scope cl FinS (.ref r) s₁ := by
  refine LCg.CompSrc.range (n := b.toNat) hh F N hr ?_ ?_ ?_ fun g => ?_
  · have hc : b = 0 ∨ b = 1 ∨ b = 2 ∨ b = 3 ∨ b = 4 ∨ b = 5 ∨ b = 6 ∨ b = 7 ∨ b = 8 := by omega
    rcases hc with rfl | rfl | rfl | rfl | rfl | rfl | rfl | rfl | rfl <;> decide
  · unfold Builtin.Range.rangeSize
    split
    · split <;> omega
    · omega
  · rw [sizeLine_eq]; omega
  · exact comp_inv (s := { s₁ with heap := g }) J b.toNat (fun v I oI C oC D m₂ ys news h tk E' => turn v I oI C oC D m₂ ys news h tk E') (fun ys ns news hJ hi hin hT => fin g ys ns news hJ hi hin (by omega)) b.toNat 0 [] [] news hJ .nil (fun _ h => nomatch h) (by simp)

theorem comp_end {s₁ : Shared} {I C D R cL cR : Addr} {oI oC oD oL oR : Obj} {p0 : Addr × Obj} {x y k : Int} {tx ty t : Tok} {n tk : Nat} {h' : Heap} (F : Fr h₀ L h' m)
    (N : News h₀ L h' [(I, oI), (C, oC), (D, oD), p0, (R, listOf #[.int x tx, .int y ty] n), (cL, oL), (cR, oR)]) (off : LCg.Off3 I C D [p0, (R, listOf #[.int x tx, .int y ty] n), (cL, oL), (cR, oR)])
    (hx : 0 ≤ x) (hy : 0 ≤ y) (hyy : y < 70000) (h0 : 0 ≤ k) (h1 : k < 256) :
    LCg.CompEnd h₀ L m s₁ I oI C oC D oD (fun _ => True) (LotEl (LotJ p0 R cL cR oL oR)) (.int k t) { s₁ with heap := h', toks := tk } :=
  LCg.CompEnd.intro F N _ (fun _ hp => hp) off trivial ⟨lotJ_start hx hy hyy, k, t, rfl, h0, h1⟩

theorem unr_end {s₁ : Shared} {I R cL cR : Addr} {it oL oR : Obj} {x y : Int} {tx ty : Tok} {n tk : Nat} {vL : Option Value} {h' : Heap} {all : List (Addr × Obj)} (F : Fr h₀ L h' m) (N : News h₀ L h' all)
    (hI : (I, it) ∈ all) (h1 : (R, listOf #[.int x tx, .int y ty] n) ∈ all) (h2 : (cL, oL) ∈ all) (h3 : (cR, oR) ∈ all) (dL : oL.data = .cell vL) (dR : oR.data = .cell (some (.ref R))) (hx : 0 ≤ x) (hy : 0 ≤ y) (hyy : y < 70000)
    (n1 : R < I) (n2 : cL < I) (n3 : cR < I) :
    UnrEnd h₀ L s₁ I it (fun _ news' => LawJ R cL cR news') { s₁ with heap := h', toks := tk } :=
  UnrEnd.intro F N [(R, listOf #[.int x tx, .int y ty] n), (cL, oL), (cR, oR)] (fun p hp => by
    rcases List.mem_cons.mp hp with rfl | hp
    · exact hI
    rcases List.mem_cons.mp hp with rfl | hp
    · exact h1
    rcases List.mem_cons.mp hp with rfl | hp
    · exact h2
    · rw [List.mem_singleton.mp hp]; exact h3) (fun p hp => by
    rcases List.mem_cons.mp hp with rfl | hp
    · exact Nat.ne_of_lt n1
    rcases List.mem_cons.mp hp with rfl | hp
    · exact Nat.ne_of_lt n2
    · rw [List.mem_singleton.mp hp]; exact Nat.ne_of_lt n3) (lawJ_start dL dR hx hy hyy)
end

theorem item_lot {prog : Program} {w : World} {A : Around} {E : Value → Shared → Prop} {s : Shared} {value slice : PySem.Expr} {b : Array UInt8} {t ui : Tok} {i : Int} {Q : Value → Shared → Prop} (hb : b.size = 10) (h0 : 0 ≤ i) (h1 : i < 10)
    (h : ∀ k t' tk', 0 ≤ k → k < 256 → Q (.int k t') { s with toks := tk' })
    (hs : subscripted slice false (.bytes b t) (.int i ui) = operate [.bytes b t, .int i ui] (getItem (.bytes b t) (.int i ui)) := by with_unfolding_all rfl)
    (ht : ∀ r, letTemporaryGo value (.bytes b t) r = pure () := by intro _; with_unfolding_all rfl) : wpAny (model prog w) A (subscriptTail value slice (.bytes b t) (.int i ui)) Q E s :=
  KBw.item_K (hs := hs) (ht := ht) (ks := KBw.bInts b) rfl (by rw [KBw.ints_length]; omega) h0 (by rw [KBw.ints_length, hb]; exact h1) fun t' k lo hi => h _ t' k lo hi
end Mine
end U3Part

section W2Part
open PySem PySem.W PySem.Calls PyProof.Rows
namespace Mine
local macro_rules | `(tactic| walk_at "call ref") => `(tactic| (k_here; (with_reducible show wpAny _ _ (call (Value.ref _) [Value.ref _]) _ _ _); k_dflt
  (refine' Mine.reef_use ?B ?F ?X ?N ?T ?hk ?h1 ?h2 ?h3 ?d ?u ?_; (case B => k_asm); (case F => k_asm); (case X => k_asm); (case N => k_asm); (case T => k_asm); (case hk => first | exact rfl | assumption); (case h1 => assumption); (case h2 => assumption); (case h3 => omega); (case d => ktr_room); (case u => ktr_units); k_whole); intro R' x' y' tx' ty' n' h' tk' F' N' hne' hx' hy' hyy'))
local macro_rules | `(tactic| walk_at "call ref") => `(tactic| (k_here; (with_reducible show wpAny _ _ (call (Value.ref _) [Value.ref _, Value.int _ _]) _ _ _); k_dflt
  (refine' Mine.shell_use ?B ?F ?X ?N ?T ?hk ?U ?h1 ?h2 ?h3 ?h4 ?h5 ?d ?u ?_; (case B => k_asm); (case F => k_asm); (case X => k_asm); (case N => k_asm); (case T => k_asm); (case hk => first | exact rfl | assumption); (case U => k_updF); (case h1 => assumption); (case h2 => assumption); (case h3 => assumption); (case h4 => omega); (case h5 => omega); (case d => ktr_room); (case u => ktr_units); k_whole); intro r' tr' x' y' tx' ty' n' h' tk' F' N' hr0' hr1' hx' hy' hyy'; (try dsimp only at N')))
local macro_rules | `(tactic| walk_at "pyIter ref") => `(tactic| (k_here; (with_reducible show wpAny _ _ (pyIter (Value.ref _)) (fun it s₂ => LoopAtV _ _ _ _ _ _ _ _ _ it s₂) _ _); k_rangeUnr))
local macro_rules | `(tactic| walk_at "RangeRest") => `(tactic| (refine Mine.hold ?_))
local macro_rules | `(tactic| walk_at "CompSrc") => `(tactic| (refine Mine.hold ?_))
local macro_rules | `(tactic| walk_at "UnrEnd") => `(tactic| (refine Mine.hold ?_))
local macro_rules | `(tactic| walk_at "eval ListComp") => `(tactic| (k_here; k_dflt (refine LCg.ListComp_U (F₀ := by k_asm) (by with_unfolding_all rfl) (by decide) (by rfl) (by decide) (by rfl) ?_)))
local macro_rules | `(tactic| walk_at "CompEnd") => `(tactic| (refine Mine.hold ?_))
local macro_rules | `(tactic| walk_at "call ref") => `(tactic| (k_here; (with_reducible show wpAny _ _ (call (Value.ref _) [Value.bytes _ _, Value.int _ _]) _ _ _); k_dflt (first
  | (refine' Mine.told_use ?B ?F ?X ?N ?T ?XB ?TB ?hk ?h1 ?h2 ?h3 ?h4 ?d ?u ?_; (case B => k_asm); (case F => k_asm); (case X => k_asm); (case N => k_asm); (case T => k_asm); (case XB => k_asm); (case TB => k_asm); (case hk => first | exact rfl | assumption); (case h1 => kba_ints); (case h2 => assumption); (case h3 => omega); (case h4 => omega); (case d => ktr_room); (case u => ktr_units); k_whole; intro v' h' tk' F' N' ans')
  | (refine' Mine.due_use ?B ?F ?X ?N ?T ?hk ?h1 ?h2 ?h3 ?h4 ?d ?u ?_; (case B => k_asm); (case F => k_asm); (case X => k_asm); (case N => k_asm); (case T => k_asm); (case hk => first | exact rfl | assumption); (case h1 => kba_ints); (case h2 => assumption); (case h3 => omega); (case h4 => omega); (case d => ktr_room); (case u => ktr_units); k_whole; intro v' h' tk' F' N' kp' ans'; have ansT' := Mine.ansAt_kept (by assumption) kp'))))
local macro_rules | `(tactic| walk_at "subscriptTail") => `(tactic| (k_here; (with_reducible show wpAny _ _ (subscriptTail _ _ (Value.bytes _ _) (Value.int _ _)) _ _ _); k_dflt (refine Mine.item_lot (by rfl) (by assumption) (by assumption) ?_); intro k' t' tk' hk0' hk1'))
local macro_rules | `(tactic| walk_at "compareOp NotEq") => `(tactic| (k_here; k_dflt (refine' Mine.ne_ans ?u ?h1 ?h2 ?_; (case h1 => assumption); (case h2 => assumption); (case u => first | units_room | exact Nat.le_of_ble_eq_true rfl))))
theorem lawHolds : PySem.Challenge.rw_xm0798_01.Holds := hd (by
  k_go0
  all_goals (try k_fold)
  k_steps
  unfold Hold
  rename (∀ p : Addr × Obj, p ∈ _ → p.1 < _) => hI
  rename (∀ p : Addr × Obj, p ∈ _ → p.1 ≠ _) => hN
  have hI1 := ltN (hI _ (.head _))
  have hI2 := ltN (hI _ (.tail _ (.head _)))
  have hI3 := ltN (hI _ (.tail _ (.tail _ (.head _))))
  have hN1 := neN (hN _ (.head _))
  have hN2 := neN (hN _ (.tail _ (.head _)))
  dsimp only at hI1 hI2 hI3 hN1 hN2
  clear hI hN
  with_unfolding_all refine range_inv (LawJ _ _ _) ?turn ?done 4 0 _ _ (lawJ_start (by assumption) (by assumption) (by assumption) (by assumption) (by assumption))
  case done =>
    intro h tk m news hJ F N
    k_steps
  case turn =>
    rintro i t h tk m news ⟨x, y, tx, ty, n, oL, oR, vL, rfl, hL, hR, hx, hy, hyy⟩ F N
    k_steps
    unfold Hold
    rename IsRange _ _ _ _ _ _ _ _ => hIR
    rename News _ _ _ _ => NN
    rename Fr _ _ _ _ => FF
    with_unfolding_all refine comp_src (LotJ _ _ _ _ _ _) (by rfl) FF NN hIR (by assumption) (by assumption) (lotJ_start (by assumption) (by assumption) (by assumption)) ?elt ?fin
    case elt =>
      rintro v I oI C oC D m₂ ys news h tk E' ⟨x, y, tx, ty, n, rfl, hx, hy, hyy⟩ hC hxv F N off ne
      have off' := off
      simp only [LCg.Off3, and_true] at off'
      k_steps
      unfold Hold
      rename News _ _ _ _ => NN
      rename Fr _ _ _ _ => FF
      with_unfolding_all exact comp_end FF NN off (by assumption) (by assumption) (by assumption) (by assumption) (by assumption)
    case fin =>
      rintro g ys ns news ⟨x, y, tx, ty, n, rfl, hx, hy, hyy⟩ hi hin hlen
      k_steps
      all_goals
        unfold Hold
        rename News _ _ _ _ => NN
        rename Fr _ _ _ _ => FF
        with_unfolding_all refine' unr_end FF NN ?m1 ?m2 ?m3 ?m4 ?dL ?dR ?px ?py ?pyy ?o1 ?o2 ?o3
        case m1 => k_mem
        case m2 => k_mem
        case m3 => k_mem
        case m4 => k_mem
        case dL => assumption
        case dR => assumption
        case px => assumption
        case py => assumption
        case pyy => assumption
        case o1 => assumption
        case o2 => assumption
        case o3 => assumption)
end Mine
end W2Part

theorem PySem.Challenge.cw_xm0798_01_holds : PySem.Challenge.rw_xm0798_01.Holds :=
  Mine.lawHolds
