import PyProof.Rows.All
import PyProof.SliceList
import PyProof.SeqRoads2
import PyProof.DictDisplay
import PyProof.P3Eq
import PyProof.NeData
import PyProof.StrLawsIdx
import PyProof.StrCalls
import PyProof.StrCalls3
import PyProof.Rows.SeqSliceW
import PyProof.Rows.TupAdd
import Open.Fast
import OpenK.KLine
import OpenK.KComp
import KE.KRevIter
import ObjForm.ListNI
import Open.Tops
import PySem.Challenge.RW_nu0352_01
set_option Elab.async false
set_option genSizeOf false
set_option tactic.hygienic false
set_option compiler.extract_closed false
set_option maxRecDepth 100000
set_option maxHeartbeats 8000000
set_option linter.all false
open PySem PySem.W PySem.Calls PyProof.Rows
namespace Nu
noncomputable section

/-- abstract values: tuples, frozen lists, frozen objects by value -/
inductive MV where
  | none
  | bool (b : Bool)
  | int (i : Int)
  | str (s : Str)
  | ref (a : Addr)
  | tup (l : List MV)
  | flist (l : List MV)
  | finst (C : Addr) (fs : List (Str × MV))
  deriving Inhabited

/-- abstract objects that may still be changed -/
inductive MO where
  | list (l : List MV)
  | ns (l : List (Str × MV))
  | sd (l : List (Str × MV))
  | idt (l : List (Int × MV))
  | inst (C d : Addr)
  | liter (src : MV) (i : Nat)
  | titer (src : MV) (i : Nat)
  | riter (x left : Int)
  | siter (x : Str) (i : Nat)
  | viter (src : MV) (i : Int)
  | rng (n : Int)
  | loc (ml : List (Str × MV))

noncomputable abbrev Zm := Addr → Option Obj
noncomputable abbrev MH := Addr → Option MO
noncomputable abbrev Loc := List (Str × MV)

noncomputable def Zsub (Z Z' : Zm) : Prop := ∀ a o, Z a = some o → Z' a = some o
theorem Zsub.refl {Z : Zm} : Zsub Z Z := fun _ _ h => h
theorem Zsub.trans {Z Z' Z'' : Zm} (h : Zsub Z Z') (h' : Zsub Z' Z'') : Zsub Z Z'' := fun a o e => h' a o (h a o e)

noncomputable abbrev tupOf (its : Array Value) (n : Nat) : Obj := { cls := .type "tuple", data := .seq its n }

mutual
inductive VR (Z : Zm) : MV → Value → Prop
  | none : VR Z .none .none
  | bool (b : Bool) : VR Z (.bool b) (.bool b)
  | int (i : Int) (t : Tok) : VR Z (.int i) (.int i t)
  | str (s : Str) (t : Tok) : VR Z (.str s) (.str s t)
  | ref (a : Addr) : VR Z (.ref a) (.ref a)
  | tup {a : Addr} {ms : List MV} {vs : List Value} {n : Nat} : Z a = some (tupOf vs.toArray n) → VRs Z ms vs → VR Z (.tup ms) (.ref a)
  | flist {a : Addr} {ms : List MV} {vs : List Value} {n : Nat} : Z a = some (listOf vs.toArray n) → VRs Z ms vs → VR Z (.flist ms) (.ref a)
  | finst {a d C : Addr} {fs : List (Str × MV)} {es : List DictEntry} {n : Nat} : Z a = some (instObj C d) → Z d = some (dictOf es n) → VRf Z fs es → VR Z (.finst C fs) (.ref a)
inductive VRs (Z : Zm) : List MV → List Value → Prop
  | nil : VRs Z [] []
  | cons {m : MV} {v : Value} {ms : List MV} {vs : List Value} : VR Z m v → VRs Z ms vs → VRs Z (m :: ms) (v :: vs)
inductive VRf (Z : Zm) : List (Str × MV) → List DictEntry → Prop
  | nil : VRf Z [] []
  | cons {x : Str} {t : Tok} {h : Int} {m : MV} {v : Value} {fs : List (Str × MV)} {es : List DictEntry} : VR Z m v → VRf Z fs es → VRf Z ((x, m) :: fs) (⟨h, .str x t, v⟩ :: es)
end

mutual
theorem VR.mono {Z Z' : Zm} (hz : Zsub Z Z') : ∀ {m : MV} {v : Value}, VR Z m v → VR Z' m v
  | _, _, .none => .none
  | _, _, .bool b => .bool b
  | _, _, .int i t => .int i t
  | _, _, .str s t => .str s t
  | _, _, .ref a => .ref a
  | _, _, .tup h r => .tup (hz _ _ h) (VRs.mono hz r)
  | _, _, .flist h r => .flist (hz _ _ h) (VRs.mono hz r)
  | _, _, .finst h h' r => .finst (hz _ _ h) (hz _ _ h') (VRf.mono hz r)
theorem VRs.mono {Z Z' : Zm} (hz : Zsub Z Z') : ∀ {m : List MV} {v : List Value}, VRs Z m v → VRs Z' m v
  | _, _, .nil => .nil
  | _, _, .cons h r => .cons (VR.mono hz h) (VRs.mono hz r)
theorem VRf.mono {Z Z' : Zm} (hz : Zsub Z Z') : ∀ {m : List (Str × MV)} {v : List DictEntry}, VRf Z m v → VRf Z' m v
  | _, _, .nil => .nil
  | _, _, .cons h r => .cons (VR.mono hz h) (VRf.mono hz r)
end

structure Cx where
  prog : Program
  w : World
  K : Frag
  p : Program
  loose : List Str
  mean : ExcName → Option Value
  mg : Str → Option Value
  mb : Str → Option Value
  u : Shared
  sl : Addr
  sv : List Value
  sn : List Int

noncomputable abbrev Cx.P (c : Cx) : Params := c.w.params
noncomputable abbrev Cx.M (c : Cx) : Model := model c.prog c.w

/-- pairs of a dictionary -/
inductive VRk (Z : Zm) {κ : Type} : List (κ × MV) → List (κ × Value) → Prop
  | nil : VRk Z [] []
  | cons {x : κ} {m : MV} {v : Value} {fs : List (κ × MV)} {es : List (κ × Value)} : VR Z m v → VRk Z fs es → VRk Z ((x, m) :: fs) ((x, v) :: es)
theorem VRk.mono {Z Z' : Zm} (hz : Zsub Z Z') {κ : Type} {m : List (κ × MV)} {v : List (κ × Value)} (h : VRk Z m v) : VRk Z' m v := by
  induction h with
  | nil => exact .nil
  | cons h _ ih => exact .cons (h.mono hz) ih

noncomputable def getM (x : Str) : Loc → Option MV
  | [] => none
  | (y, v) :: r => @ite _ (x = y) (Fast.sDec x y) (some v) (getM x r)
noncomputable def LR (Z : Zm) (ml : Loc) (m : Str → Option Value) : Prop := ∀ x v, getM x ml = some v → ∃ cv, m x = some cv ∧ VR Z v cv
theorem LR.mono {Z Z' : Zm} (hz : Zsub Z Z') {ml : Loc} {m : Str → Option Value} (h : LR Z ml m) : LR Z' ml m :=
  fun x v e => let ⟨cv, a, b⟩ := h x v e; ⟨cv, a, b.mono hz⟩

noncomputable def NsO (o : Obj) (m : Str → Option Value) : Prop := ∃ es ep, o.data = .dict es ep ∧ StrKeys es ∧ ∀ name, nsFind es name = m name
inductive OR (c : Cx) (Z : Zm) : MO → Obj → Prop
  | list {ms : List MV} {vs : List Value} {n : Nat} : VRs Z ms vs → OR c Z (.list ms) (listOf vs.toArray n)
  | ns {fs : List (Str × MV)} {es : List DictEntry} {n : Nat} : VRf Z fs es → OR c Z (.ns fs) (dictOf es n)
  | sd {fs : List (Str × MV)} {kvs : List (Str × Value)} {o : Obj} : o.IsDictOf (strKind c.prog c.w) kvs → VRk Z fs kvs → OR c Z (.sd fs) o
  | idt {fs : List (Int × MV)} {kvs : List (Int × Value)} {o : Obj} : o.IsDictOf (intKind c.prog c.w) kvs → VRk Z fs kvs → OR c Z (.idt fs) o
  | inst {C d : Addr} : OR c Z (.inst C d) (instObj C d)
  | liter {src : MV} {l : Addr} {i : Nat} {o : Obj} : VR Z src (.ref l) → o.cls = .type "list_iterator" → o.data = .fields #[.ref l, .int i 0] → OR c Z (.liter src i) o
  | titer {src : MV} {l : Addr} {i : Nat} {o : Obj} : VR Z src (.ref l) → o.cls = .type "tuple_iterator" → o.data = .fields #[.ref l, .int i 0] → OR c Z (.titer src i) o
  | riter {x left : Int} : OR c Z (.riter x left) { cls := .type "range_iterator", data := .fields #[rawInt x, rawInt left, rawInt 1] }
  | siter {x : Str} {t : Tok} {i : Nat} {o : Obj} : o.cls = .type "str_ascii_iterator" → o.data = .fields #[.str x t, .int i 0] → OR c Z (.siter x i) o
  | viter {src : MV} {l : Addr} {i : Int} {o : Obj} : VR Z src (.ref l) → o.cls = .type "list_reverseiterator" → o.data = .fields #[.ref l, rawInt i] → OR c Z (.viter src i) o
  | rng {n : Int} {t u v : Tok} : OR c Z (.rng n) { cls := .type "range", data := .fields #[.int 0 t, .int n u, .int 1 v] }
  | loc {ml : Loc} {m : Str → Option Value} {o : Obj} : NsO o m → LR Z ml m → OR c Z (.loc ml) o
theorem OR.mono {c : Cx} {Z Z' : Zm} (hz : Zsub Z Z') {m : MO} {v : Obj} (h : OR c Z m v) : OR c Z' m v := by
  cases h with
  | list h => exact .list (h.mono hz)
  | ns h => exact .ns (h.mono hz)
  | sd d h => exact .sd d (h.mono hz)
  | idt d h => exact .idt d (h.mono hz)
  | inst => exact .inst
  | liter a b d => exact .liter (a.mono hz) b d
  | titer a b d => exact .titer (a.mono hz) b d
  | riter => exact .riter
  | siter a b => exact .siter a b
  | viter a b d => exact .viter (a.mono hz) b d
  | rng => exact .rng
  | loc a b => exact .loc a (b.mono hz)
noncomputable def okAddr (a : Addr) : MO → Prop
  | .sd _ | .idt _ => (a == sysModules) = false
  | _ => True

structure Pt (c : Cx) (k : Nat) (A : Around) (env : Env) (h₀ : Heap) (L : Addr) : Prop where
  below : ∃ A₀ base outer, Below A₀ base outer h₀ ∧ A.frames = some (env :: outer)
  fr : env.frame = some L
  kind : env.scope.kind = .function
  kin : c.K.In h₀
  top : Top c.p c.loose c.mean c.mg c.mb h₀
  depth : A.depth + 3 * k + 10 < recursionLimit
  units : A.units + 16 * k + 100 < cLine
  hand : A.handled = none
  old : h₀.IsList c.sl c.sv.toArray ∧ IntsAre c.sv c.sn

theorem Pt.le {c : Cx} {k k' : Nat} {A : Around} {env : Env} {h₀ : Heap} {L : Addr} (h : Pt c k A env h₀ L) (hk : k' ≤ k) : Pt c k' A env h₀ L :=
  ⟨h.below, h.fr, h.kind, h.kin, h.top, by have := h.depth; lia, by have := h.units; lia, h.hand, h.old⟩

noncomputable def setM (x : Str) (v : MV) : Loc → Loc
  | [] => [(x, v)]
  | (y, w) :: r => @ite _ (x = y) (Fast.sDec x y) ((y, v) :: r) ((y, w) :: setM x v r)
theorem getM_setM (x y : Str) (v : MV) : ∀ l : Loc, getM y (setM x v l) = if y = x then some v else getM y l
  | [] => by simp [getM, setM]
  | (z, w) :: r => by
    unfold setM
    by_cases h : x = z
    · subst h
      rw [if_pos rfl]
      unfold getM
      by_cases h' : y = x <;> simp [h']
    · rw [if_neg h]
      unfold getM
      by_cases h' : y = z
      · subst h'
        rw [if_pos rfl, if_pos rfl, if_neg (fun e => h e.symm)]
      · rw [if_neg h', if_neg h']
        exact getM_setM x y v r

/-- the ledger covers the abstract heap and the frozen part -/
noncomputable def Cov (c : Cx) (Z : Zm) (σ : MH) (news : List (Addr × Obj)) : Prop :=
  (∀ a o, σ a = some o → Z a = none ∧ okAddr a o ∧ ∃ ob, (a, ob) ∈ news ∧ OR c Z o ob) ∧ (∀ a ob, Z a = some ob → (a, ob) ∈ news)

structure SR (c : Cx) (h₀ : Heap) (L : Addr) (Z : Zm) (m : Str → Option Value) (ml : Loc) (σ : MH) (s : Shared) : Prop where
  F : Fr h₀ L s.heap m
  loc : LR Z ml m
  led : ∃ news, News h₀ L s.heap news ∧ Cov c Z σ news
  gens : s.gens = c.u.gens
  drawn : s.drawn = c.u.drawn
  os : s.os = c.u.os

noncomputable def Post (c : Cx) (h₀ : Heap) (L : Addr) (Z : Zm) (m : Str → Option Value) (ml : Loc) (Q : MV → MH → Prop) (v : Value) (s' : Shared) : Prop :=
  ∃ mv σ' Z', Zsub Z Z' ∧ VR Z' mv v ∧ SR c h₀ L Z' m ml σ' s' ∧ Q mv σ'

/-- a tree over values: from every state that stands for σ it comes to an end in Q -/
noncomputable def OW (c : Cx) (k : Nat) (t : List Value → Sem Value) (as : List MV) (σ : MH) (Q : MV → MH → Prop) : Prop :=
  ∀ (A : Around) (cn : Str) (cs : Scope) (L a : Addr) (cd : Value) (h₀ : Heap) (Z : Zm) (m : Str → Option Value) (ml : Loc) (s : Shared) (vs : List Value),
    Pt c k A (envOf cn cs L a cd) h₀ L → SR c h₀ L Z m ml σ s → VRs Z as vs →
    wpAny c.M A (t vs) (Post c h₀ L Z m ml Q) (fun _ _ => False) s

noncomputable def EW (c : Cx) (k : Nat) (cs : Scope) (e : Expr) (ml : Loc) (σ : MH) (Q : MV → MH → Prop) : Prop :=
  ∀ (A : Around) (cn : Str) (L a : Addr) (cd : Value) (h₀ : Heap) (Z : Zm) (m : Str → Option Value) (s : Shared),
    Pt c k A (envOf cn cs L a cd) h₀ L → SR c h₀ L Z m ml σ s →
    wpAny c.M A (eval e (envOf cn cs L a cd)) (Post c h₀ L Z m ml Q) (fun _ _ => False) s

theorem Post.mono {c : Cx} {h₀ : Heap} {L : Addr} {Z : Zm} {m : Str → Option Value} {ml : Loc} {Q Q' : MV → MH → Prop} {v : Value} {s' : Shared}
    (hq : ∀ mv σ, Q mv σ → Q' mv σ) (h : Post c h₀ L Z m ml Q v s') : Post c h₀ L Z m ml Q' v s' :=
  let ⟨mv, σ, Z', a, b, d, e⟩ := h; ⟨mv, σ, Z', a, b, d, hq _ _ e⟩
theorem EW.mono {c : Cx} {k : Nat} {cs : Scope} {e : Expr} {ml : Loc} {σ : MH} {Q Q' : MV → MH → Prop} (h : EW c k cs e ml σ Q) (hq : ∀ mv σ, Q mv σ → Q' mv σ) : EW c k cs e ml σ Q' :=
  fun A cn L a cd h₀ Z m s P S => wpAny_mono (h A cn L a cd h₀ Z m s P S) (fun _ _ q => q.mono hq) fun _ _ q => q
theorem OW.mono {c : Cx} {k : Nat} {t : List Value → Sem Value} {as : List MV} {σ : MH} {Q Q' : MV → MH → Prop} (h : OW c k t as σ Q) (hq : ∀ mv σ, Q mv σ → Q' mv σ) : OW c k t as σ Q' :=
  fun A cn cs L a cd h₀ Z m ml s vs P S V => wpAny_mono (h A cn cs L a cd h₀ Z m ml s vs P S V) (fun _ _ q => q.mono hq) fun _ _ q => q
theorem OW.le {c : Cx} {k k' : Nat} {t : List Value → Sem Value} {as : List MV} {σ : MH} {Q : MV → MH → Prop} (h : OW c k t as σ Q) (hk : k ≤ k') : OW c k' t as σ Q :=
  fun A cn cs L a cd h₀ Z m ml s vs P S V => h A cn cs L a cd h₀ Z m ml s vs (P.le hk) S V

/-- the state after a change that the abstract heap does not see -/
theorem SR.toks {c : Cx} {h₀ : Heap} {L : Addr} {Z : Zm} {m : Str → Option Value} {ml : Loc} {σ : MH} {s : Shared} (S : SR c h₀ L Z m ml σ s) (t : Nat) : SR c h₀ L Z m ml σ { s with toks := t } :=
  ⟨S.F, S.loc, S.led, S.gens, S.drawn, S.os⟩

/-- going on behind a Post -/
theorem Post.then {c : Cx} {α : Type} {A : Around} {h₀ : Heap} {L : Addr} {Z : Zm} {m : Str → Option Value} {ml : Loc} {Q : MV → MH → Prop} {Q' : α → Shared → Prop} {t : Value → Sem α} {v : Value} {s' : Shared}
    (h : Post c h₀ L Z m ml Q v s') (k : ∀ mv σ' Z', Zsub Z Z' → VR Z' mv v → SR c h₀ L Z' m ml σ' s' → Q mv σ' → wpAny c.M A (t v) Q' (fun _ _ => False) s') : wpAny c.M A (t v) Q' (fun _ _ => False) s' :=
  let ⟨mv, σ, Z', a, b, d, e⟩ := h; k mv σ Z' a b d e
theorem Post.up {c : Cx} {h₀ : Heap} {L : Addr} {Z Z' : Zm} {m : Str → Option Value} {ml : Loc} {Q : MV → MH → Prop} {v : Value} {s' : Shared}
    (hz : Zsub Z Z') (h : Post c h₀ L Z' m ml Q v s') : Post c h₀ L Z m ml Q v s' :=
  let ⟨mv, σ, Z'', a, b, d, e⟩ := h; ⟨mv, σ, Z'', hz.trans a, b, d, e⟩

section
variable {c : Cx} {k : Nat} {cs : Scope} {ml : Loc} {σ : MH} {Q : MV → MH → Prop} {pos : Pos}

theorem ew_local {x : Str} {v : MV} (hv : getM x ml = some v) (q : Q v σ) (hk : cs.names.lookup x = some .local := by kernel_rfl) (hd : (x == ("__debug__" : Str)) = false := by kernel_rfl) : EW c k cs (.Name x pos) ml σ Q := by
  intro A cn L a cd h₀ Z m s P S
  obtain ⟨cv, hm, hr⟩ := S.loc x v hv
  exact ld S.F hm ⟨v, σ, Z, .refl, hr, S, q⟩ P.kind (by exact hk) hd

theorem ew_int {i : Int} {j : Nat} (q : Q (.int i) σ) : EW c k cs (.Constant (.int i) j pos) ml σ Q := by
  intro A cn L a cd h₀ Z m s P S
  exact wpAny_Constant_int ⟨_, σ, Z, .refl, .int i _, S.toks _, q⟩
theorem ew_str {x : Str} {j : Nat} (q : Q (.str x) σ) : EW c k cs (.Constant (.str x) j pos) ml σ Q := by
  intro A cn L a cd h₀ Z m s P S
  exact wpAny_mkText ⟨_, σ, Z, .refl, .str x _, S.toks _, q⟩
theorem ew_none {j : Nat} (q : Q .none σ) : EW c k cs (.Constant .none j pos) ml σ Q := by
  intro A cn L a cd h₀ Z m s P S
  exact wpAny_pure ⟨_, σ, Z, .refl, .none, S, q⟩
theorem ew_bool {b : Bool} {j : Nat} (q : Q (.bool b) σ) : EW c k cs (.Constant (.bool b) j pos) ml σ Q := by
  intro A cn L a cd h₀ Z m s P S
  exact wpAny_pure ⟨_, σ, Z, .refl, .bool b, S, q⟩
end

noncomputable def updH (σ : MH) (a : Addr) (o : MO) : MH := fun b => if b = a then some o else σ b
noncomputable def delH (σ : MH) (a : Addr) : MH := fun b => if b = a then none else σ b
noncomputable def updZ (Z : Zm) (a : Addr) (o : Obj) : Zm := fun b => if b = a then some o else Z b
theorem updH_same (σ : MH) (a : Addr) (o : MO) : updH σ a o a = some o := by simp [updH]
theorem updH_ne {σ : MH} {a b : Addr} {o : MO} (h : b ≠ a) : updH σ a o b = σ b := by simp [updH, h]
theorem delH_ne {σ : MH} {a b : Addr} (h : b ≠ a) : delH σ a b = σ b := by simp [delH, h]
theorem ne_of_fresh {σ : MH} {a b : Addr} {o : MO} (ha : σ a = none) (hb : σ b = some o) : b ≠ a := fun e => by subst e; rw [ha] at hb; cases hb
theorem updH_new {σ : MH} {a b : Addr} {o o' : MO} (ha : σ a = none) (hb : σ b = some o') : updH σ a o b = some o' := (updH_ne (ne_of_fresh ha hb)).trans hb
theorem updZ_sub {Z : Zm} {a : Addr} {o : Obj} (h : Z a = none) : Zsub Z (updZ Z a o) := fun b x e => by
  have : b ≠ a := fun q => by subst q; rw [h] at e; cases e
  simp [updZ, this, e]
theorem updZ_same (Z : Zm) (a : Addr) (o : Obj) : updZ Z a o a = some o := by simp [updZ]

section
variable {c : Cx} {h₀ : Heap} {L : Addr} {Z : Zm} {m : Str → Option Value} {ml : Loc} {σ : MH} {s : Shared}

theorem SR.open (S : SR c h₀ L Z m ml σ s) {a : Addr} {o : MO} (ha : σ a = some o) :
    ∃ ob rest, OR c Z o ob ∧ News h₀ L s.heap ((a, ob) :: rest) ∧ (∀ p ∈ rest, p.1 ≠ a) ∧ (Z a = none ∧ okAddr a o) ∧
      ∀ (h' : Heap) (t : Nat) (o' : MO) (ob' : Obj), Fr h₀ L h' m → News h₀ L h' ((a, ob') :: rest) → OR c Z o' ob' → okAddr a o' → SR c h₀ L Z m ml (updH σ a o') { s with heap := h', toks := t } := by
  obtain ⟨news, N, C⟩ := S.led
  obtain ⟨hz, hok, ob, hm, ho⟩ := C.1 a o ha
  refine ⟨ob, news.filter (fun p => p.1 ≠ a), ho, fun p hp => ?_, fun p hp => by simpa using (List.mem_filter.mp hp).2, ⟨hz, hok⟩, fun h' t o' ob' F' N' O' K' => ?_⟩
  · rcases List.mem_cons.mp hp with rfl | hp
    · exact N _ hm
    · exact N _ (List.mem_filter.mp hp).1
  · refine ⟨F', S.loc, ⟨_, N', fun b x e => ?_, fun b x e => ?_⟩, S.gens, S.drawn, S.os⟩
    · by_cases hb : b = a
      · subst hb
        rw [updH_same] at e
        cases e
        exact ⟨hz, K', ob', .head _, O'⟩
      · rw [updH_ne hb] at e
        obtain ⟨z, zk, xb, xm, xo⟩ := C.1 b x e
        exact ⟨z, zk, xb, .tail _ (List.mem_filter.mpr ⟨xm, by simpa using hb⟩), xo⟩
    · have hb : b ≠ a := fun q => by subst q; rw [hz] at e; cases e
      exact .tail _ (List.mem_filter.mpr ⟨C.2 b x e, by simpa using hb⟩)

theorem SR.at (S : SR c h₀ L Z m ml σ s) {a : Addr} {o : MO} (ha : σ a = some o) : ∃ ob, OR c Z o ob ∧ s.heap.get? a = some ob ∧ a ≠ L ∧ h₀.get? a = none := by
  obtain ⟨ob, rest, ho, N, _⟩ := S.open ha
  exact ⟨ob, ho, N _ (.head _)⟩
theorem SR.atZ (S : SR c h₀ L Z m ml σ s) {a : Addr} {ob : Obj} (ha : Z a = some ob) : s.heap.get? a = some ob ∧ a ≠ L ∧ h₀.get? a = none := by
  obtain ⟨news, N, C⟩ := S.led
  exact N _ (C.2 a ob ha)

theorem cov_fresh {news : List (Addr × Obj)} (C : Cov c Z σ news) {l : Addr} (h : ∀ p ∈ news, p.1 < l) : σ l = none ∧ Z l = none := by
  constructor
  · cases e : σ l with
    | none => rfl
    | some o => obtain ⟨_, _, ob, hm, _⟩ := C.1 l o e; exact absurd (h _ hm) (Nat.lt_irrefl _)
  · cases e : Z l with
    | none => rfl
    | some o => exact absurd (h _ (C.2 l o e)) (Nat.lt_irrefl _)

theorem SR.push (S : SR c h₀ L Z m ml σ s) {news : List (Addr × Obj)} (C : Cov c Z σ news) {l : Addr} {ob : Obj} {o : MO} {h' : Heap} (t : Nat)
    (F' : Fr h₀ L h' m) (N' : News h₀ L h' ((l, ob) :: news)) (lt : ∀ p ∈ news, p.1 < l) (O : OR c Z o ob) (K' : okAddr l o) :
    σ l = none ∧ SR c h₀ L Z m ml (updH σ l o) { s with heap := h', toks := t } := by
  obtain ⟨hs, hz⟩ := cov_fresh C lt
  refine ⟨hs, F', S.loc, ⟨_, N', fun b x e => ?_, fun b x e => .tail _ (C.2 b x e)⟩, S.gens, S.drawn, S.os⟩
  by_cases hb : b = l
  · subst hb
    rw [updH_same] at e
    cases e
    exact ⟨hz, K', ob, .head _, O⟩
  · rw [updH_ne hb] at e
    obtain ⟨z, zk, xb, xm, xo⟩ := C.1 b x e
    exact ⟨z, zk, xb, .tail _ xm, xo⟩

theorem SR.pushZ (S : SR c h₀ L Z m ml σ s) {news : List (Addr × Obj)} (C : Cov c Z σ news) {l : Addr} {ob : Obj} {h' : Heap} (t : Nat)
    (F' : Fr h₀ L h' m) (N' : News h₀ L h' ((l, ob) :: news)) (lt : ∀ p ∈ news, p.1 < l) :
    Zsub Z (updZ Z l ob) ∧ SR c h₀ L (updZ Z l ob) m ml σ { s with heap := h', toks := t } := by
  obtain ⟨hs, hz⟩ := cov_fresh C lt
  have hsub := updZ_sub (o := ob) hz
  refine ⟨hsub, F', S.loc.mono hsub, ⟨_, N', fun b x e => ?_, fun b x e => ?_⟩, S.gens, S.drawn, S.os⟩
  · obtain ⟨z, zk, xb, xm, xo⟩ := C.1 b x e
    have hb : b ≠ l := fun q => by subst q; rw [hs] at e; cases e
    exact ⟨by simp [updZ, hb, z], zk, xb, .tail _ xm, xo.mono hsub⟩
  · by_cases hb : b = l
    · subst hb
      rw [updZ_same] at e
      cases e
      exact .head _
    · simp only [updZ, hb, if_false] at e
      exact .tail _ (C.2 b x e)

/-- a ghost step: an object of the abstract heap is frozen -/
theorem SR.freeze (S : SR c h₀ L Z m ml σ s) {a : Addr} {o : MO} (ha : σ a = some o) :
    ∃ ob, OR c Z o ob ∧ Zsub Z (updZ Z a ob) ∧ SR c h₀ L (updZ Z a ob) m ml (delH σ a) s := by
  obtain ⟨news, N, C⟩ := S.led
  obtain ⟨hz, _, ob, hm, ho⟩ := C.1 a o ha
  have hsub := updZ_sub (o := ob) hz
  refine ⟨ob, ho, hsub, S.F, S.loc.mono hsub, ⟨news, N, fun b x e => ?_, fun b x e => ?_⟩, S.gens, S.drawn, S.os⟩
  · have hb : b ≠ a := fun q => by subst q; simp [delH] at e
    rw [delH_ne hb] at e
    obtain ⟨z, zk, xb, xm, xo⟩ := C.1 b x e
    exact ⟨by simp [updZ, hb, z], zk, xb, xm, xo.mono hsub⟩
  · by_cases hb : b = a
    · subst hb
      rw [updZ_same] at e
      cases e
      exact hm
    · simp only [updZ, hb, if_false] at e
      exact C.2 b x e

theorem SR.anew (S : SR c h₀ L Z m ml σ s) {ml' : Loc} {m' : Str → Option Value} {h' : Heap} (t : Nat) (F' : Fr h₀ L h' m') (hl : LR Z ml' m') (hs : Heap.SameBut L s.heap h') :
    SR c h₀ L Z m' ml' σ { s with heap := h', toks := t } := by
  obtain ⟨news, N, C⟩ := S.led
  exact ⟨F', hl, ⟨news, N.set hs, C⟩, S.gens, S.drawn, S.os⟩
end

/-- what may be said of the end by a ghost step -/
noncomputable def Gh (c : Cx) (Q : MV → MH → Prop) (mv : MV) (σ : MH) : Prop :=
  ∀ (h₀ : Heap) (L : Addr) (Z : Zm) (m : Str → Option Value) (ml : Loc) (s : Shared) (v : Value), VR Z mv v → SR c h₀ L Z m ml σ s → Post c h₀ L Z m ml Q v s
theorem Gh.now {c : Cx} {Q : MV → MH → Prop} {mv : MV} {σ : MH} (q : Q mv σ) : Gh c Q mv σ := fun _ _ Z _ _ _ _ V S => ⟨mv, σ, Z, .refl, V, S, q⟩
theorem OW.ghost {c : Cx} {k : Nat} {t : List Value → Sem Value} {as : List MV} {σ : MH} {Q : MV → MH → Prop} (h : OW c k t as σ (Gh c Q)) : OW c k t as σ Q :=
  fun A cn cs L a cd h₀ Z m ml s vs P S V => wpAny_mono (h A cn cs L a cd h₀ Z m ml s vs P S V) (fun _ _ ⟨mv, σ', Z', z, r, S', q⟩ => (q _ _ _ _ _ _ _ r S').up z) fun _ _ q => q
/-- a list, referred to by the value alone, is frozen -/
theorem Gh.flist {c : Cx} {Q : MV → MH → Prop} {a : Addr} {ms : List MV} {σ : MH} (ha : σ a = some (.list ms)) (q : Gh c Q (.flist ms) (delH σ a)) : Gh c Q (.ref a) σ := by
  intro h₀ L Z m ml s v V S
  cases V
  obtain ⟨ob, ho, hz, S'⟩ := S.freeze ha
  cases ho with
  | list hr => exact (q _ _ _ _ _ _ _ (.flist (updZ_same ..) (hr.mono hz)) S').up hz

section
variable {c : Cx} {k : Nat} {cs : Scope} {ml : Loc} {σ : MH} {Q : MV → MH → Prop} {pos : Pos}

theorem bind_post {α : Type} {A : Around} {h₀ : Heap} {L : Addr} {Z : Zm} {m : Str → Option Value} {ml : Loc} {R : MV → MH → Prop} {Q' : α → Shared → Prop} {t : Sem Value} {f : Value → Sem α} {s : Shared}
    (h : wpAny c.M A t (Post c h₀ L Z m ml R) (fun _ _ => False) s)
    (kk : ∀ mv σ' Z' v s', Zsub Z Z' → VR Z' mv v → SR c h₀ L Z' m ml σ' s' → R mv σ' → wpAny c.M A (f v) Q' (fun _ _ => False) s') :
    wpAny c.M A (t >>= f) Q' (fun _ _ => False) s :=
  wpAny_bind (wpAny_mono h (fun v s' ⟨mv, σ', Z', a, b, d, e⟩ => kk mv σ' Z' v s' a b d e) fun _ _ x => x)
theorem mono_post {α : Type} {A : Around} {h₀ : Heap} {L : Addr} {Z : Zm} {m : Str → Option Value} {ml : Loc} {R : MV → MH → Prop} {Q' : Value → Shared → Prop} {t : Sem Value} {s : Shared}
    (h : wpAny c.M A t (Post c h₀ L Z m ml R) (fun _ _ => False) s)
    (kk : ∀ mv σ' Z' v s', Zsub Z Z' → VR Z' mv v → SR c h₀ L Z' m ml σ' s' → R mv σ' → Q' v s') :
    wpAny c.M A t Q' (fun _ _ => False) s :=
  wpAny_mono h (fun v s' ⟨mv, σ', Z', a, b, d, e⟩ => kk mv σ' Z' v s' a b d e) fun _ _ x => x

noncomputable abbrev KBin2 (c : Cx) (k : Nat) (op : Operator) (Q : MV → MH → Prop) (x : MV) : MV → MH → Prop := fun y σ₂ => OW c k (fun vs => binaryOp op (vs.getD 0 .none) (vs.getD 1 .none)) [x, y] σ₂ Q
noncomputable abbrev KBin (c : Cx) (k : Nat) (cs : Scope) (op : Operator) (r : Expr) (ml : Loc) (Q : MV → MH → Prop) : MV → MH → Prop := fun x σ₁ => EW c k cs r ml σ₁ (KBin2 c k op Q x)
theorem ew_bin {l r : Expr} {op : Operator} (h : EW c k cs l ml σ (KBin c k cs op r ml Q)) :
    EW c k cs (.BinOp l op r pos) ml σ Q := by
  intro A cn L a cd h₀ Z m s P S
  refine wpAny_BinOp (mono_post (α := Unit) (h A cn L a cd h₀ Z m s P S) fun x σ₁ Z₁ v s₁ hz V S₁ h₁ => ?_)
  refine mono_post (α := Unit) (h₁ A cn L a cd h₀ Z₁ m s₁ P S₁) fun y σ₂ Z₂ v' s₂ hz₂ V' S₂ h₂ => ?_
  refine wpAny_mono (h₂ A cn cs L a cd h₀ Z₂ m ml s₂ [v, v'] P S₂ (.cons (V.mono hz₂) (.cons V' .nil))) (fun _ _ q => (q.up hz₂).up hz) fun _ _ x => x

noncomputable abbrev KCmp2 (c : Cx) (k : Nat) (op : CmpOp) (Q : MV → MH → Prop) (x : MV) : MV → MH → Prop := fun y σ₂ => OW c k (fun vs => compareOp op (vs.getD 0 .none) (vs.getD 1 .none)) [x, y] σ₂ Q
noncomputable abbrev KCmp (c : Cx) (k : Nat) (cs : Scope) (op : CmpOp) (r : Expr) (ml : Loc) (Q : MV → MH → Prop) : MV → MH → Prop := fun x σ₁ => EW c k cs r ml σ₁ (KCmp2 c k op Q x)
theorem ew_cmp {l r : Expr} {op : CmpOp} (h : EW c k cs l ml σ (KCmp c k cs op r ml Q))
    (hm : behindInMarks op r = false := by with_unfolding_all rfl) : EW c k cs (.Compare l [op] [r] pos) ml σ Q := by
  intro A cn L a cd h₀ Z m s P S
  refine wpAny_Compare1 (mono_post (α := Unit) (h A cn L a cd h₀ Z m s P S) fun x σ₁ Z₁ v s₁ hz V S₁ h₁ => ?_) hm
  refine mono_post (α := Unit) (h₁ A cn L a cd h₀ Z₁ m s₁ P S₁) fun y σ₂ Z₂ v' s₂ hz₂ V' S₂ h₂ => ?_
  refine wpAny_mono (h₂ A cn cs L a cd h₀ Z₂ m ml s₂ [v, v'] P S₂ (.cons (V.mono hz₂) (.cons V' .nil))) (fun _ _ q => (q.up hz₂).up hz) fun _ _ x => x

/-- lists of trees: a call's arguments, a display's items -/
noncomputable def PostL (c : Cx) (h₀ : Heap) (L : Addr) (Z : Zm) (m : Str → Option Value) (ml : Loc) (Q : List MV → MH → Prop) (v : List Value) (s' : Shared) : Prop :=
  ∃ mv σ' Z', Zsub Z Z' ∧ VRs Z' mv v ∧ SR c h₀ L Z' m ml σ' s' ∧ Q mv σ'
noncomputable def EWs (c : Cx) (k : Nat) (cs : Scope) (es : List Expr) (ml : Loc) (σ : MH) (Q : List MV → MH → Prop) : Prop :=
  ∀ (A : Around) (cn : Str) (L a : Addr) (cd : Value) (h₀ : Heap) (Z : Zm) (m : Str → Option Value) (s : Shared) (pos : Pos),
    Pt c k A (envOf cn cs L a cd) h₀ L → SR c h₀ L Z m ml σ s →
    wpAny c.M A (spliced (backTo pos (starEach es (envOf cn cs L a cd)))) (PostL c h₀ L Z m ml Q) (fun _ _ => False) s

theorem ews_nil {Q : List MV → MH → Prop} (q : Q [] σ) : EWs c k cs [] ml σ Q := by
  intro A cn L a cd h₀ Z m s pos P S
  exact wpAny_pure ⟨[], σ, Z, .refl, .nil, S, q⟩
noncomputable def notStar : Expr → Bool
  | .Starred .. => false
  | _ => true
theorem starEach_cons {e : Expr} {es : List Expr} {env : Env} (h : notStar e = true) : starEach (e :: es) env = (false, eval e env) :: starEach es env := by
  cases e <;> first | rfl | cases h
theorem backTo_plain {es : List Expr} {env : Env} {pos : Pos} (h : es.all notStar = true) : (backTo pos (starEach es env)).any (·.1) = false := by
  induction es with
  | nil => rfl
  | cons e es ih =>
    obtain ⟨a, b⟩ := Bool.and_eq_true_iff.mp (List.all_cons ▸ h)
    rw [starEach_cons a]
    show (false || (backTo pos (starEach es env)).any (·.1)) = false
    rw [ih b]; rfl
theorem backTo_len {es : List Expr} {env : Env} {pos : Pos} : (backTo pos (starEach es env)).length = es.length := by
  unfold backTo
  rw [List.length_map]
  induction es with
  | nil => rfl
  | cons e es ih => cases e <;> exact congrArg (· + 1) ih
noncomputable abbrev KCons2 (Q : List MV → MH → Prop) (x : MV) : List MV → MH → Prop := fun xs σ₂ => Q (x :: xs) σ₂
noncomputable abbrev KCons (c : Cx) (k : Nat) (cs : Scope) (es : List Expr) (ml : Loc) (Q : List MV → MH → Prop) : MV → MH → Prop := fun x σ₁ => EWs c k cs es ml σ₁ (KCons2 Q x)
theorem ews_cons {e : Expr} {es : List Expr} {Q : List MV → MH → Prop} (h : EW c k cs e ml σ (KCons c k cs es ml Q))
    (hs : notStar e = true := by rfl) : EWs c k cs (e :: es) ml σ Q := by
  intro A cn L a cd h₀ Z m s pos P S
  rw [starEach_cons hs]
  show wpAny c.M A (do let v ← eval e (envOf cn cs L a cd); let here ← pure [v]; return here ++ (← holding here (spliced (backTo pos (starEach es (envOf cn cs L a cd)))))) _ _ s
  refine bind_post (h A cn L a cd h₀ Z m s P S) fun x σ₁ Z₁ v s₁ hz V S₁ h₁ => ?_
  refine wpAny_bind (wpAny_pure (wpAny_bind (wpAny_holding (wpAny_mono (h₁ A cn L a cd h₀ Z₁ m s₁ pos P S₁) (fun vs s₂ ⟨xs, σ₂, Z₂, hz₂, V₂, S₂, q⟩ => wpAny_pure ?_) fun _ _ x => x))))
  exact ⟨x :: xs, σ₂, Z₂, hz.trans hz₂, .cons (V.mono hz₂) V₂, S₂, q⟩

theorem evalArgs_w {f : Value} {A : Around} {es : List Expr} {env : Env} {R : Args → Shared → Prop} {s : Shared} (hp : es.all notStar = true)
    (h : wpAny c.M A (spliced (backTo pos (starEach es env))) (fun vs s' => R ⟨vs, []⟩ s') (fun _ _ => False) s) : wpAny c.M A (evalArgs f true (backTo pos (starEach es env)) []) R (fun _ _ => False) s := by
  cases es with
  | nil =>
    unfold evalArgs
    show wpAny c.M A (spliced (backTo pos (starEach [] env)) >>= _) R _ s
    refine wpAny_bind (wpAny_mono h (fun vs s' h' => ?_) fun _ _ x => x)
    refine wpAny_bind (wpAny_pure ?_)
    refine wpAny_holding ?_
    exact wpAny_bind (wpAny_pure (wpAny_bind (wpAny_pure (wpAny_pure h'))))
  | cons e es =>
    obtain ⟨a, _⟩ := Bool.and_eq_true_iff.mp (List.all_cons ▸ hp)
    rw [starEach_cons a] at h ⊢
    exact evalArgs_plain h
end

noncomputable def Keeps (c : Cx) (f : Value) : Prop := ∀ h, c.K.In h → ∃ kk, (kk = Keeper.frame ∨ kk = Keeper.machine ∨ kk = Keeper.boundFrame) ∧ Looks c.M h (keeperOf f) kk
theorem keeps_ref {c : Cx} {f : Value} (h : keepIn c.K f = true) : Keeps c f := fun hh X => keeps_K h hh X
theorem keeps_bi {c : Cx} {id : String} : Keeps c (.builtin id) := fun hh X => ⟨.machine, .inr (.inl rfl), Looks.of_pure rfl⟩
theorem keeps_ty {c : Cx} {id : String} : Keeps c (.type id) := fun hh X => ⟨.machine, .inr (.inl rfl), Looks.of_pure rfl⟩

/-- a call of the value f -/
noncomputable def CW (c : Cx) (k : Nat) (f : Value) (as : List MV) (σ : MH) (Q : MV → MH → Prop) : Prop := OW c k (fun vs => call f vs) as σ Q

theorem VRs.append {Z : Zm} {ms ms' : List MV} {vs vs' : List Value} (h : VRs Z ms vs) (h' : VRs Z ms' vs') : VRs Z (ms ++ ms') (vs ++ vs') := by
  induction ms generalizing vs with
  | nil => cases h; exact h'
  | cons m ms ih => cases h with | cons a b => exact .cons a (ih b)
theorem VRs.length {Z : Zm} {ms : List MV} {vs : List Value} (h : VRs Z ms vs) : vs.length = ms.length := by
  induction ms generalizing vs with
  | nil => cases h; rfl
  | cons m ms ih => cases h with | cons a b => simp [ih b]

section
variable {c : Cx} {k : Nat} {cs : Scope} {ml : Loc} {σ : MH} {Q : MV → MH → Prop} {pos : Pos}

theorem callWith_w {A : Around} {cn : Str} {L a : Addr} {cd : Value} {h₀ : Heap} {Z : Zm} {m : Str → Option Value} {s : Shared} {f : Value} {as : List MV} {first : List Value} {args : List Expr} {cp : Pos}
    (P : Pt c k A (envOf cn cs L a cd) h₀ L) (S : SR c h₀ L Z m ml σ s) (V : VRs Z as first) (hk : Keeps c f) (hp : args.all notStar = true)
    (h : EWs c k cs args ml σ fun vs σ₂ => CW c k f (as ++ vs) σ₂ Q) :
    wpAny c.M A (callWith cp f first (backTo pos (starEach args (envOf cn cs L a cd))) []) (Post c h₀ L Z m ml Q) (fun _ _ => False) s := by
  refine callWith_of (P := c.K.In) (by show (List.any _ _ || false) = false; rw [backTo_plain hp]; rfl) (fun h X => hk h X) (evalArgs_w hp ?_)
  refine wpAny_mono (h A cn L a cd h₀ Z m s pos P S) (fun vs s' ⟨xs, σ₂, Z₂, hz, V₂, S₂, q⟩ => ⟨P.kin.keeps S₂.F.keep, ?_⟩) fun _ _ x => x
  exact wpAny_mono (q A cn cs L a cd h₀ Z₂ m ml s' (first ++ vs) P S₂ ((show VRs Z₂ as first from VRs.mono hz V).append V₂)) (fun _ _ q => q.up hz) fun _ _ x => x

noncomputable abbrev KCall (c : Cx) (k : Nat) (f : Value) (Q : MV → MH → Prop) : List MV → MH → Prop := fun vs σ₂ => CW c k f vs σ₂ Q
theorem ew_callG {x : Str} {p : Pos} {args : List Expr} {f : Addr} (hg : nsIn c.K mainGlobals x = some (some (.ref f))) (hk : keepIn c.K (.ref f) = true)
    (h : EWs c k cs args ml σ (KCall c k (.ref f) Q)) (hp : args.all notStar = true := by kernel_rfl)
    (hl : cs.names.lookup x = some .globalImplicit := by kernel_rfl) (hd : (x == ("__debug__" : Str)) = false := by kernel_rfl) :
    EW c k cs (.Call (.Name x p) args [] pos) ml σ Q := by
  intro A cn L a cd h₀ Z m s P S
  show wpAny c.M A (do callWith pos (← eval (.Name x p) (envOf cn cs L a cd)) [] (backTo pos (starEach args (envOf cn cs L a cd))) []) _ _ s
  refine wpAny_bind (name_K S.F P.kin (topRead_of P.top) hg ?_ P.kind hl hd)
  exact callWith_w (as := []) P S .nil (keeps_ref hk) hp h

theorem ew_callB {x : Str} {p : Pos} {args : List Expr} {f : Value} (hg : nsIn c.K mainGlobals x = some none) (hb : bootBuiltins x = some f) (hk : Keeps c f) (hn : x ≠ "__name__")
    (h : EWs c k cs args ml σ (KCall c k f Q)) (hp : args.all notStar = true := by kernel_rfl)
    (hl : cs.names.lookup x = some .globalImplicit := by kernel_rfl) (hd : (x == ("__debug__" : Str)) = false := by kernel_rfl) :
    EW c k cs (.Call (.Name x p) args [] pos) ml σ Q := by
  intro A cn L a cd h₀ Z m s P S
  show wpAny c.M A (do callWith pos (← eval (.Name x p) (envOf cn cs L a cd)) [] (backTo pos (starEach args (envOf cn cs L a cd))) []) _ _ s
  refine wpAny_bind (name_B S.F P.kin (topRead_of P.top) hg hb hn ?_ P.kind hl hd)
  exact callWith_w (as := []) P S .nil hk hp h

theorem ew_nameG {x : Str} {p : Pos} {f : Addr} (hg : nsIn c.K mainGlobals x = some (some (.ref f))) (q : Q (.ref f) σ)
    (hl : cs.names.lookup x = some .globalImplicit := by kernel_rfl) (hd : (x == ("__debug__" : Str)) = false := by kernel_rfl) :
    EW c k cs (.Name x p) ml σ Q := by
  intro A cn L a cd h₀ Z m s P S
  exact name_K S.F P.kin (topRead_of P.top) hg ⟨_, σ, Z, .refl, .ref f, S, q⟩ P.kind hl hd
theorem ew_nameI {x : Str} {p : Pos} {i : Int} {t : Tok} (hg : nsIn c.K mainGlobals x = some (some (.int i t))) (q : Q (.int i) σ)
    (hl : cs.names.lookup x = some .globalImplicit := by kernel_rfl) (hd : (x == ("__debug__" : Str)) = false := by kernel_rfl) :
    EW c k cs (.Name x p) ml σ Q := by
  intro A cn L a cd h₀ Z m s P S
  exact name_K S.F P.kin (topRead_of P.top) hg ⟨_, σ, Z, .refl, .int i t, S, q⟩ P.kind hl hd

/-- the method that a name stands for at a value -/
noncomputable def MethIs (c : Cx) (k : Nat) (ov : MV) (σ : MH) (name : Str) (f : Value) : Prop :=
  ∀ (A : Around) (cn : Str) (cs : Scope) (L a : Addr) (cd : Value) (h₀ : Heap) (Z : Zm) (m : Str → Option Value) (ml : Loc) (s : Shared) (v : Value) (pl : Sem Bool) (R : Value × List Value → Shared → Prop),
    Pt c k A (envOf cn cs L a cd) h₀ L → SR c h₀ L Z m ml σ s → VR Z ov v → (∀ s', SR c h₀ L Z m ml σ s' → R (f, [v]) s') → wpAny c.M A (getMethod v name pl) R (fun _ _ => False) s

noncomputable abbrev KMeth2 (c : Cx) (k : Nat) (Q : MV → MH → Prop) (ov : MV) (f : Value) : List MV → MH → Prop := fun vs σ₂ => CW c k f (ov :: vs) σ₂ Q
noncomputable abbrev KMeth (c : Cx) (k : Nat) (cs : Scope) (name : Str) (args : List Expr) (ml : Loc) (Q : MV → MH → Prop) : MV → MH → Prop := fun ov σ₁ => ∃ f, MethIs c k ov σ₁ name f ∧ Keeps c f ∧ EWs c k cs args ml σ₁ (KMeth2 c k Q ov f)
theorem ew_meth {o : Expr} {name : Str} {apos : Pos} {args : List Expr} (h : EW c k cs o ml σ (KMeth c k cs name args ml Q))
    (hb : ∀ env, attributeBase o name env (eval o env) = eval o env := by intro _; rfl) (hp : args.all notStar = true := by kernel_rfl) (hlen : Nat.blt args.length 29 = true := by rfl) (hline : (apos.endLine == pos.line) = true := by kernel_rfl) :
    EW c k cs (.Call (.Attribute o name apos) args [] pos) ml σ Q := by
  intro A cn L a cd h₀ Z m s P S
  rw [arm_eval_Call, hb]
  refine bind_post (h A cn L a cd h₀ Z m s P S) fun ov σ₁ Z₁ v s₁ hz V S₁ ⟨f, hm, hk, hw⟩ => ?_
  refine wpAny_bind (wpAny_standAt ?_)
  have hform : methodCallForm (args.length + ([] : List Keyword).length) (backTo pos (starEach args (envOf cn cs L a cd))) (backToKw pos (keywordEach [] (envOf cn cs L a cd))) = true := by
    unfold methodCallForm
    have h1 : (backTo pos (starEach args (envOf cn cs L a cd))).all (fun x => !x.1) = true := by
      have := backTo_plain (env := envOf cn cs L a cd) (pos := pos) hp
      rw [List.any_eq_false] at this
      rw [List.all_eq_true]
      intro x hx
      simpa using this x hx
    rw [h1]
    have : args.length < 29 := by
      have := Nat.le_of_ble_eq_true (show Nat.ble (args.length + 1) 29 = true from hlen)
      lia
    simp [backToKw, keywordEach]
    lia
  unfold methodCall
  rw [hform]
  refine wpAny_bind (wpAny_holding ?_)
  refine hm A cn cs L a cd h₀ Z₁ m ml s₁ v _ _ P S₁ V fun s₂ S₂ => ?_
  have hpos : methodCallPos true o (envOf cn cs L a cd) apos pos = pure pos := by unfold methodCallPos; simp [hline]
  refine wpAny_bind (wpAny_of_eq hpos ?_)
  exact wpAny_mono (callWith_w (as := [ov]) P S₂ (.cons V .nil) hk hp hw) (fun _ _ q => q.up hz) fun _ _ x => x

/-- attributes -/
noncomputable def GA (c : Cx) (k : Nat) (ov : MV) (σ : MH) (name : Str) (r : MV) : Prop :=
  ∀ (A : Around) (cn : Str) (cs : Scope) (L a : Addr) (cd : Value) (h₀ : Heap) (Z : Zm) (m : Str → Option Value) (ml : Loc) (s : Shared) (v : Value) (ex : Bool) (R : Value → Shared → Prop),
    Pt c k A (envOf cn cs L a cd) h₀ L → SR c h₀ L Z m ml σ s → VR Z ov v → (∀ rv s', VR Z r rv → SR c h₀ L Z m ml σ s' → R rv s') → wpAny c.M A (getAttr v name ex) R (fun _ _ => False) s

noncomputable abbrev KAttr (c : Cx) (k : Nat) (name : Str) (Q : MV → MH → Prop) : MV → MH → Prop := fun ov σ₁ => ∃ r, GA c k ov σ₁ name r ∧ Q r σ₁
theorem ew_attr {o : Expr} {name : Str} (h : EW c k cs o ml σ (KAttr c k name Q))
    (hb : ∀ env, attributeBase o name env (eval o env) = eval o env := by intro _; rfl) : EW c k cs (.Attribute o name pos) ml σ Q := by
  intro A cn L a cd h₀ Z m s P S
  refine Attribute_any_ (mono_post (α := Unit) (h A cn L a cd h₀ Z m s P S) fun ov σ₁ Z₁ v s₁ hz V S₁ ⟨r, hg, q⟩ => ?_) (by
    show (do
      let o' ← attributeBase o name (envOf cn cs L a cd) (eval o (envOf cn cs L a cd))
      standAt pos.atName
      let r ← holding [o'] (getAttr o' name true)
      letTemporaryGo o o' r
      pure r) = _
    rw [hb])
  exact hg A cn cs L a cd h₀ Z₁ m ml s₁ v _ _ P S₁ V fun rv s₂ V₂ S₂ => ⟨r, σ₁, Z₁, hz, V₂, S₂, q⟩

noncomputable abbrev KTup (Q : MV → MH → Prop) : List MV → MH → Prop := fun vs σ₁ => vs.length ≤ 100 ∧ Q (.tup vs) σ₁
theorem ew_tuple {es : List Expr} {j : Nat} (h : EWs c k cs es ml σ (KTup Q)) : EW c k cs (.Tuple es j pos) ml σ Q := by
  intro A cn L a cd h₀ Z m s P S
  refine Tuple_ (wpAny_mono (h A cn L a cd h₀ Z m s pos P S) (fun vs s₁ ⟨xs, σ₁, Z₁, hz, V, S₁, hl, q⟩ => ?_) fun _ _ x => x)
  obtain ⟨news, N, C⟩ := S₁.led
  refine newTuple_N S₁.F N (fun h' F' N' => ?_) (by rw [V.length, sizeLine_eq]; lia)
  have lt : ∀ p ∈ news, p.1 < s₁.heap.objs.size := fun p hp => Heap.lt_size (N p hp).1
  obtain ⟨hz₂, S₂⟩ := S₁.pushZ C s₁.toks F' N' lt
  exact ⟨.tup xs, σ₁, _, hz.trans hz₂, .tup (updZ_same ..) (VRs.mono hz₂ V), S₂, q⟩

noncomputable abbrev KList (Q : MV → MH → Prop) : List MV → MH → Prop := fun vs σ₁ => vs.length ≤ 100 ∧ ∀ l, σ₁ l = none → Q (.ref l) (updH σ₁ l (.list vs))
theorem ew_list {es : List Expr} (h : EWs c k cs es ml σ (KList Q)) : EW c k cs (.List es pos) ml σ Q := by
  intro A cn L a cd h₀ Z m s P S
  refine List_ (wpAny_mono (h A cn L a cd h₀ Z m s pos P S) (fun vs s₁ ⟨xs, σ₁, Z₁, hz, V, S₁, hl, q⟩ => ?_) fun _ _ x => x)
  obtain ⟨news, N, C⟩ := S₁.led
  refine newList_K S₁.F N (fun l h' F' N' lt => ?_) (by rw [V.length, sizeLine_eq]; lia)
  obtain ⟨hl, S₂⟩ := S₁.push C s₁.toks F' N' lt (.list V) trivial
  exact ⟨.ref l, _, Z₁, hz, .ref l, S₂, q l hl⟩

/-- tests -/
noncomputable def PostB (c : Cx) (h₀ : Heap) (L : Addr) (Z : Zm) (m : Str → Option Value) (ml : Loc) (Q : Bool → MH → Prop) (b : Bool) (s' : Shared) : Prop :=
  ∃ σ' Z', Zsub Z Z' ∧ SR c h₀ L Z' m ml σ' s' ∧ Q b σ'
noncomputable def TW (c : Cx) (k : Nat) (cs : Scope) (e : Expr) (ml : Loc) (σ : MH) (Q : Bool → MH → Prop) : Prop :=
  ∀ (A : Around) (cn : Str) (L a : Addr) (cd : Value) (h₀ : Heap) (Z : Zm) (m : Str → Option Value) (s : Shared) (whole : Sem Value),
    Pt c k A (envOf cn cs L a cd) h₀ L → SR c h₀ L Z m ml σ s → whole = eval e (envOf cn cs L a cd) →
    wpAny c.M A (isTrue e (envOf cn cs L a cd) whole) (PostB c h₀ L Z m ml Q) (fun _ _ => False) s

noncomputable def plainTest : Expr → Bool
  | .UnaryOp .Not _ _ | .BoolOp .. | .IfExp .. | .Compare .. => false
  | _ => true
set_option tactic.hygienic true in
theorem isTrue_of_plain {e : Expr} {env : Env} {whole : Sem Value} (h : plainTest e = true) : isTrue e env whole = (do let v ← whole; standAt e.pos; holding [v] (truthy v)) := by
  cases e <;> first | rfl | (cases h; done) | skip
  rename_i op x p
  cases op <;> first | rfl | cases h
variable {QB : Bool → MH → Prop}
noncomputable abbrev KBool (QB : Bool → MH → Prop) : MV → MH → Prop := fun v σ₁ => ∃ b, v = .bool b ∧ QB b σ₁
theorem tw_val {e : Expr} (h : EW c k cs e ml σ (KBool QB)) (hp : plainTest e = true := by rfl) : TW c k cs e ml σ QB := by
  intro A cn L a cd h₀ Z m s whole P S hw
  subst hw
  rw [isTrue_of_plain hp]
  refine bind_post (h A cn L a cd h₀ Z m s P S) fun x σ₁ Z₁ v s₁ hz V S₁ ⟨b, e, q⟩ => ?_
  subst e
  cases V
  exact wpAny_bind (wpAny_standAt (wpAny_holding (wpAny_truthy_bool ⟨σ₁, Z₁, hz, S₁, q⟩)))
theorem tw_cmp {l r : Expr} {op : CmpOp} (h : EW c k cs l ml σ (KCmp c k cs op r ml (KBool QB)))
    (hm : behindInMarks op r = false := by with_unfolding_all rfl) : TW c k cs (.Compare l [op] [r] pos) ml σ QB := by
  intro A cn L a cd h₀ Z m s whole P S hw
  refine wpAny_isTrue_Compare1 (mono_post (α := Unit) (h A cn L a cd h₀ Z m s P S) fun x σ₁ Z₁ v s₁ hz V S₁ h₁ => ?_) hm
  refine mono_post (α := Unit) (h₁ A cn L a cd h₀ Z₁ m s₁ P S₁) fun y σ₂ Z₂ v' s₂ hz₂ V' S₂ h₂ => ?_
  refine mono_post (α := Unit) (h₂ A cn cs L a cd h₀ Z₂ m ml s₂ [v, v'] P S₂ (.cons (V.mono hz₂) (.cons V' .nil))) fun z σ₃ Z₃ v'' s₃ hz₃ V'' S₃ ⟨b, e, q⟩ => ?_
  subst e
  cases V''
  exact wpAny_truthy_bool ⟨σ₃, Z₃, (hz.trans hz₂).trans hz₃, S₃, q⟩
theorem tw_not {e : Expr} (h : TW c k cs e ml σ fun b σ₁ => QB (!b) σ₁) : TW c k cs (.UnaryOp .Not e pos) ml σ QB := by
  intro A cn L a cd h₀ Z m s whole P S hw
  exact isTrue_not (h A cn L a cd h₀ Z m s _ P S rfl)
theorem PostB.up {h₀ : Heap} {L : Addr} {Z Z' : Zm} {m : Str → Option Value} {b : Bool} {s' : Shared} (hz : Zsub Z Z') (h : PostB c h₀ L Z' m ml QB b s') : PostB c h₀ L Z m ml QB b s' :=
  let ⟨σ, Z'', a, d, e⟩ := h; ⟨σ, Z'', hz.trans a, d, e⟩
theorem tw_and1 {e : Expr} (h : TW c k cs e ml σ QB) : TW c k cs (.BoolOp .And [e] pos) ml σ QB := by
  intro A cn L a cd h₀ Z m s whole P S hw
  refine isTrue_and (wpAny_mono (h A cn L a cd h₀ Z m s _ P S rfl) (fun b s' q => ?_) fun _ _ x => x)
  cases b
  · exact q
  · exact isTrue_and_nil q
noncomputable abbrev KAnd (c : Cx) (k : Nat) (cs : Scope) (e : Expr) (ml : Loc) (QB : Bool → MH → Prop) : Bool → MH → Prop := fun b σ₁ => if b = true then TW c k cs e ml σ₁ QB else QB false σ₁
theorem tw_and {e e' : Expr} {es : List Expr} (h : TW c k cs e ml σ (KAnd c k cs (.BoolOp .And (e' :: es) pos) ml QB)) : TW c k cs (.BoolOp .And (e :: e' :: es) pos) ml σ QB := by
  intro A cn L a cd h₀ Z m s whole P S hw
  refine isTrue_and (wpAny_mono (h A cn L a cd h₀ Z m s _ P S rfl) (fun b s' ⟨σ₁, Z₁, hz, S₁, q⟩ => ?_) fun _ _ x => x)
  cases b
  · exact ⟨σ₁, Z₁, hz, S₁, q⟩
  · show wpAny c.M A (allTrue .And (e' :: es) (envOf cn cs L a cd)) _ _ s'
    exact wpAny_mono (q A cn L a cd h₀ Z₁ m s' _ P S₁ rfl) (fun _ _ q => q.up hz) fun _ _ x => x
theorem tw_or1 {e : Expr} (h : TW c k cs e ml σ QB) : TW c k cs (.BoolOp .Or [e] pos) ml σ QB := by
  intro A cn L a cd h₀ Z m s whole P S hw
  refine isTrue_or (wpAny_mono (h A cn L a cd h₀ Z m s _ P S rfl) (fun b s' q => ?_) fun _ _ x => x)
  cases b
  · exact isTrue_or_nil q
  · exact q
noncomputable abbrev KOr (c : Cx) (k : Nat) (cs : Scope) (e : Expr) (ml : Loc) (QB : Bool → MH → Prop) : Bool → MH → Prop := fun b σ₁ => if b = true then QB true σ₁ else TW c k cs e ml σ₁ QB
theorem tw_or {e e' : Expr} {es : List Expr} (h : TW c k cs e ml σ (KOr c k cs (.BoolOp .Or (e' :: es) pos) ml QB)) : TW c k cs (.BoolOp .Or (e :: e' :: es) pos) ml σ QB := by
  intro A cn L a cd h₀ Z m s whole P S hw
  refine isTrue_or (wpAny_mono (h A cn L a cd h₀ Z m s _ P S rfl) (fun b s' ⟨σ₁, Z₁, hz, S₁, q⟩ => ?_) fun _ _ x => x)
  cases b
  · show wpAny c.M A (allTrue .Or (e' :: es) (envOf cn cs L a cd)) _ _ s'
    exact wpAny_mono (q A cn L a cd h₀ Z₁ m s' _ P S₁ rfl) (fun _ _ q => q.up hz) fun _ _ x => x
  · exact ⟨σ₁, Z₁, hz, S₁, q⟩
noncomputable abbrev KIfE (c : Cx) (k : Nat) (cs : Scope) (b e : Expr) (ml : Loc) (Q : MV → MH → Prop) : Bool → MH → Prop := fun v σ₁ => if v = true then EW c k cs b ml σ₁ Q else EW c k cs e ml σ₁ Q
theorem ew_ifexp {t b e : Expr} (h : TW c k cs t ml σ (KIfE c k cs b e ml Q)) : EW c k cs (.IfExp t b e pos) ml σ Q := by
  intro A cn L a cd h₀ Z m s P S
  refine IfExp_ (wpAny_mono (h A cn L a cd h₀ Z m s _ P S rfl) (fun v s₁ ⟨σ₁, Z₁, hz, S₁, q⟩ => ?_) fun _ _ x => x)
  cases v <;> exact wpAny_mono (q A cn L a cd h₀ Z₁ m s₁ P S₁) (fun _ _ q => q.up hz) fun _ _ x => x
end

inductive Fl where
  | next | brk | cont
  | ret (v : MV)
inductive FR (Z : Zm) : Fl → Flow → Prop
  | next : FR Z .next .next
  | brk : FR Z .brk .brk
  | cont : FR Z .cont .cont
  | ret {m : MV} {v : Value} : VR Z m v → FR Z (.ret m) (.ret v)

noncomputable def PostS (c : Cx) (h₀ : Heap) (L : Addr) (Z : Zm) (R : Fl → Loc → MH → Prop) (f : Flow) (s' : Shared) : Prop :=
  ∃ fl ml σ Z' m, Zsub Z Z' ∧ FR Z' fl f ∧ SR c h₀ L Z' m ml σ s' ∧ R fl ml σ
theorem PostS.up {c : Cx} {h₀ : Heap} {L : Addr} {Z Z' : Zm} {R : Fl → Loc → MH → Prop} {f : Flow} {s' : Shared} (hz : Zsub Z Z') (h : PostS c h₀ L Z' R f s') : PostS c h₀ L Z R f s' :=
  let ⟨fl, ml, σ, Z'', m, a, b, d, e⟩ := h; ⟨fl, ml, σ, Z'', m, hz.trans a, b, d, e⟩
theorem PostS.mono {c : Cx} {h₀ : Heap} {L : Addr} {Z : Zm} {R R' : Fl → Loc → MH → Prop} {f : Flow} {s' : Shared} (hr : ∀ fl ml σ, R fl ml σ → R' fl ml σ) (h : PostS c h₀ L Z R f s') : PostS c h₀ L Z R' f s' :=
  let ⟨fl, ml, σ, Z', m, a, b, d, e⟩ := h; ⟨fl, ml, σ, Z', m, a, b, d, hr _ _ _ e⟩

/-- a block of statements -/
noncomputable def SW (c : Cx) (k : Nat) (cs : Scope) (b : List Stmt) (ml : Loc) (σ : MH) (R : Fl → Loc → MH → Prop) : Prop :=
  ∀ (A : Around) (cn : Str) (L a : Addr) (cd : Value) (h₀ : Heap) (Z : Zm) (m : Str → Option Value) (s : Shared),
    Pt c k A (envOf cn cs L a cd) h₀ L → SR c h₀ L Z m ml σ s → wpAny c.M A (execs b (envOf cn cs L a cd)) (PostS c h₀ L Z R) (fun _ _ => False) s
/-- one statement -/
noncomputable def S1 (c : Cx) (k : Nat) (cs : Scope) (b : Stmt) (ml : Loc) (σ : MH) (R : Fl → Loc → MH → Prop) : Prop :=
  ∀ (A : Around) (cn : Str) (L a : Addr) (cd : Value) (h₀ : Heap) (Z : Zm) (m : Str → Option Value) (s : Shared),
    Pt c k A (envOf cn cs L a cd) h₀ L → SR c h₀ L Z m ml σ s → wpAny c.M A (exec b (envOf cn cs L a cd)) (PostS c h₀ L Z R) (fun _ _ => False) s

/-- what becomes of a value of a block's first statement: go on, or out -/
noncomputable def Beh (c : Cx) (k : Nat) (cs : Scope) (rest : List Stmt) (R : Fl → Loc → MH → Prop) : Fl → Loc → MH → Prop := fun fl ml σ => match fl with
  | .next => SW c k cs rest ml σ R
  | fl => R fl ml σ

section
variable {c : Cx} {k : Nat} {cs : Scope} {ml : Loc} {σ : MH} {R : Fl → Loc → MH → Prop} {pos : Pos} {rest : List Stmt}

theorem SW.mono {b : List Stmt} {R' : Fl → Loc → MH → Prop} (h : SW c k cs b ml σ R) (hr : ∀ fl ml σ, R fl ml σ → R' fl ml σ) : SW c k cs b ml σ R' :=
  fun A cn L a cd h₀ Z m s P S => wpAny_mono (h A cn L a cd h₀ Z m s P S) (fun _ _ q => q.mono hr) fun _ _ q => q
theorem S1.mono {b : Stmt} {R' : Fl → Loc → MH → Prop} (h : S1 c k cs b ml σ R) (hr : ∀ fl ml σ, R fl ml σ → R' fl ml σ) : S1 c k cs b ml σ R' :=
  fun A cn L a cd h₀ Z m s P S => wpAny_mono (h A cn L a cd h₀ Z m s P S) (fun _ _ q => q.mono hr) fun _ _ q => q
theorem sw_nil (q : R .next ml σ) : SW c k cs [] ml σ R := fun A cn L a cd h₀ Z m s P S => wpAny_execs_nil ⟨.next, ml, σ, Z, m, .refl, .next, S, q⟩
theorem sw_cons {st : Stmt} (h : S1 c k cs st ml σ (Beh c k cs rest R)) : SW c k cs (st :: rest) ml σ R := by
  intro A cn L a cd h₀ Z m s P S
  refine wpAny_execs_cons (wpAny_mono (h A cn L a cd h₀ Z m s P S) (fun f s₁ ⟨fl, ml₁, σ₁, Z₁, m₁, hz, hf, S₁, q⟩ => ?_) fun _ _ x => x)
  cases hf with
  | next => exact wpAny_mono (q A cn L a cd h₀ Z₁ m₁ s₁ P S₁) (fun _ _ q => q.up hz) fun _ _ x => x
  | brk => exact ⟨.brk, ml₁, σ₁, Z₁, m₁, hz, .brk, S₁, q⟩
  | cont => exact ⟨.cont, ml₁, σ₁, Z₁, m₁, hz, .cont, S₁, q⟩
  | ret V => exact ⟨.ret _, ml₁, σ₁, Z₁, m₁, hz, .ret V, S₁, q⟩

theorem store_w {A : Around} {cn : Str} {L a : Addr} {cd : Value} {h₀ : Heap} {Z : Zm} {m : Str → Option Value} {s : Shared} {x : Str} {mv : MV} {v : Value} {Q' : Unit → Shared → Prop}
    (P : Pt c k A (envOf cn cs L a cd) h₀ L) (S : SR c h₀ L Z m ml σ s) (V : VR Z mv v) (hl : cs.names.lookup x = some .local)
    (q : ∀ s' m', SR c h₀ L Z m' (setM x mv ml) σ s' → Q' () s') : wpAny c.M A (storeName (envOf cn cs L a cd) x v) Q' (fun _ _ => False) s := by
  have hk : cs.kind = .function := P.kind
  refine wpAny_storeName_local hl S.F.ns (fun h' hn hs => ?_) (by show (cs.kind == .class || (cs.kind == .module && L != mainGlobals)) = false; rw [hk]; rfl)
  refine q _ _ (S.anew _ (S.F.set hn hs) (fun y w e => ?_) hs)
  rw [getM_setM] at e
  by_cases hy : y = x
  · rw [if_pos hy] at e ⊢
    cases e
    exact ⟨v, rfl, V⟩
  · rw [if_neg hy] at e ⊢
    exact S.loc y w e

noncomputable abbrev KAsg (x : Str) (ml : Loc) (R : Fl → Loc → MH → Prop) : MV → MH → Prop := fun v σ₁ => R .next (setM x v ml) σ₁
theorem s_assign {x : Str} {p : Pos} {e : Expr} (h : EW c k cs e ml σ (KAsg x ml R)) (hl : cs.names.lookup x = some .local := by kernel_rfl)
    (hs : ∀ env, swapsWith e (some (.Name x p)) pos.line env = pure false := by intro _; rfl) : S1 c k cs (.Assign [.Name x p] e pos) ml σ R := by
  intro A cn L a cd h₀ Z m s P S
  refine wpAny_Assign_Name (mono_post (α := Unit) (h A cn L a cd h₀ Z m s P S) fun mv σ₁ Z₁ v s₁ hz V S₁ q => ?_) (hs _)
  exact store_w P S₁ V hl fun s' m' S' => ⟨.next, _, σ₁, Z₁, m', hz, .next, S', q⟩
noncomputable abbrev KRet (ml : Loc) (R : Fl → Loc → MH → Prop) : MV → MH → Prop := fun v σ₁ => R (.ret v) ml σ₁
theorem s_return {e : Expr} (h : EW c k cs e ml σ (KRet ml R)) : S1 c k cs (.Return (some e) pos) ml σ R := by
  intro A cn L a cd h₀ Z m s P S
  exact wpAny_Return_some (mono_post (α := Unit) (h A cn L a cd h₀ Z m s P S) fun mv σ₁ Z₁ v s₁ hz V S₁ q => ⟨.ret mv, ml, σ₁, Z₁, m, hz, .ret V, S₁, q⟩)
theorem s_return0 (q : R (.ret .none) ml σ) : S1 c k cs (.Return none pos) ml σ R := fun A cn L a cd h₀ Z m s P S => wpAny_Return_none ⟨.ret .none, ml, σ, Z, m, .refl, .ret .none, S, q⟩
theorem s_break (q : R .brk ml σ) : S1 c k cs (.Break pos) ml σ R := fun A cn L a cd h₀ Z m s P S => wpAny_Break ⟨.brk, ml, σ, Z, m, .refl, .brk, S, q⟩
noncomputable abbrev KExp (ml : Loc) (R : Fl → Loc → MH → Prop) : MV → MH → Prop := fun _ σ₁ => R .next ml σ₁
theorem s_expr {e : Expr} (h : EW c k cs e ml σ (KExp ml R)) (hi : ∀ cn L a cd, interactive (envOf cn cs L a cd) = false := by intro _ _ _ _; rfl)
    (hs : ∀ env, swapsWith e none pos.line env = pure false := by intro _; rfl) : S1 c k cs (.Expr e pos) ml σ R := by
  intro A cn L a cd h₀ Z m s P S
  rw [exec_Expr _ e pos (hi _ _ _ _) (hs _)]
  exact wpAny_bind (wpAny_standAt (bind_post (h A cn L a cd h₀ Z m s P S) fun mv σ₁ Z₁ v s₁ hz V S₁ q => wpAny_dropValue ⟨.next, ml, σ₁, Z₁, m, hz, .next, S₁, q⟩))
noncomputable abbrev KIf (c : Cx) (k : Nat) (cs : Scope) (b e : List Stmt) (ml : Loc) (R : Fl → Loc → MH → Prop) : Bool → MH → Prop := fun v σ₁ => if v = true then SW c k cs b ml σ₁ R else SW c k cs e ml σ₁ R
theorem s_if {t : Expr} {b e : List Stmt} (h : TW c k cs t ml σ (KIf c k cs b e ml R)) : S1 c k cs (.If t b e pos) ml σ R := by
  intro A cn L a cd h₀ Z m s P S
  refine wpAny_If (wpAny_mono (h A cn L a cd h₀ Z m s _ P S rfl) (fun v s₁ ⟨σ₁, Z₁, hz, S₁, q⟩ => ?_) fun _ _ x => x)
  cases v <;> exact wpAny_mono (q A cn L a cd h₀ Z₁ m s₁ P S₁) (fun _ _ q => q.up hz) fun _ _ x => x

/-- a store, as a tree over [object, value] or [object, key, value] -/
noncomputable def UW (c : Cx) (k : Nat) (t : List Value → Sem Unit) (as : List MV) (σ : MH) (Q : MH → Prop) : Prop :=
  ∀ (A : Around) (cn : Str) (cs : Scope) (L a : Addr) (cd : Value) (h₀ : Heap) (Z : Zm) (m : Str → Option Value) (ml : Loc) (s : Shared) (vs : List Value),
    Pt c k A (envOf cn cs L a cd) h₀ L → SR c h₀ L Z m ml σ s → VRs Z as vs →
    wpAny c.M A (t vs) (fun _ s' => ∃ σ', SR c h₀ L Z m ml σ' s' ∧ Q σ') (fun _ _ => False) s
noncomputable def setAttrW (n : Str) (vs : List Value) : Sem Unit := setAttr (vs.getD 0 .none) n (vs.getD 1 .none)
noncomputable def setItemW (vs : List Value) : Sem Unit := setItem (vs.getD 0 .none) (vs.getD 1 .none) (vs.getD 2 .none)
noncomputable def inplaceW (op : Operator) (vs : List Value) : Sem Value := inplaceOp op (vs.getD 0 .none) (vs.getD 1 .none)
noncomputable def getItemW (vs : List Value) : Sem Value := getItem (vs.getD 0 .none) (vs.getD 1 .none)

noncomputable abbrev KSa2 (c : Cx) (k : Nat) (n : Str) (ml : Loc) (R : Fl → Loc → MH → Prop) (v : MV) : MV → MH → Prop := fun ov σ₂ => UW c k (setAttrW n) [ov, v] σ₂ (R .next ml)
noncomputable abbrev KSa (c : Cx) (k : Nat) (cs : Scope) (n : Str) (o : Expr) (ml : Loc) (R : Fl → Loc → MH → Prop) : MV → MH → Prop := fun v σ₁ => EW c k cs o ml σ₁ (KSa2 c k n ml R v)
theorem s_setattr {o e : Expr} {n : Str} {p : Pos} (h : EW c k cs e ml σ (KSa c k cs n o ml R))
    (hs : ∀ env, swapsWith e (some (.Attribute o n p)) pos.line env = pure false := by intro _; rfl) : S1 c k cs (.Assign [.Attribute o n p] e pos) ml σ R := by
  intro A cn L a cd h₀ Z m s P S
  refine plainObj_wpAny_Assign_Attribute (mono_post (α := Unit) (h A cn L a cd h₀ Z m s P S) fun mv σ₁ Z₁ v s₁ hz V S₁ q => ?_) (hs _)
  refine mono_post (α := Unit) (q A cn L a cd h₀ Z₁ m s₁ P S₁) fun ov σ₂ Z₂ v' s₂ hz₂ V' S₂ q₂ => ?_
  exact wpAny_mono (q₂ A cn cs L a cd h₀ Z₂ m ml s₂ [v', v] P S₂ (.cons V' (.cons (V.mono hz₂) .nil))) (fun _ s' ⟨σ₃, S₃, q₃⟩ => ⟨.next, ml, σ₃, Z₂, m, hz.trans hz₂, .next, S₃, q₃⟩) fun _ _ x => x
noncomputable abbrev KSi3 (c : Cx) (k : Nat) (ml : Loc) (R : Fl → Loc → MH → Prop) (v ov : MV) : MV → MH → Prop := fun iv σ₃ => UW c k setItemW [ov, iv, v] σ₃ (R .next ml)
noncomputable abbrev KSi2 (c : Cx) (k : Nat) (cs : Scope) (i : Expr) (ml : Loc) (R : Fl → Loc → MH → Prop) (v : MV) : MV → MH → Prop := fun ov σ₂ => EW c k cs i ml σ₂ (KSi3 c k ml R v ov)
noncomputable abbrev KSi (c : Cx) (k : Nat) (cs : Scope) (o i : Expr) (ml : Loc) (R : Fl → Loc → MH → Prop) : MV → MH → Prop := fun v σ₁ => EW c k cs o ml σ₁ (KSi2 c k cs i ml R v)
theorem s_setitem {o i e : Expr} {p : Pos} (h : EW c k cs e ml σ (KSi c k cs o i ml R))
    (hs : ∀ env, swapsWith e (some (.Subscript o i p)) pos.line env = pure false := by intro _; rfl) : S1 c k cs (.Assign [.Subscript o i p] e pos) ml σ R := by
  intro A cn L a cd h₀ Z m s P S
  refine wpAny_Assign_Subscript (mono_post (α := Unit) (h A cn L a cd h₀ Z m s P S) fun mv σ₁ Z₁ v s₁ hz V S₁ q => ?_) (hs _)
  refine mono_post (α := Unit) (q A cn L a cd h₀ Z₁ m s₁ P S₁) fun ov σ₂ Z₂ v' s₂ hz₂ V' S₂ q₂ => ?_
  refine mono_post (α := Unit) (q₂ A cn L a cd h₀ Z₂ m s₂ P S₂) fun iv σ₃ Z₃ v'' s₃ hz₃ V'' S₃ q₃ => ?_
  exact wpAny_mono (q₃ A cn cs L a cd h₀ Z₃ m ml s₃ [v', v'', v] P S₃ (.cons (V'.mono hz₃) (.cons V'' (.cons ((V.mono hz₂).mono hz₃) .nil)))) (fun _ s' ⟨σ₄, S₄, q₄⟩ => ⟨.next, ml, σ₄, Z₃, m, (hz.trans hz₂).trans hz₃, .next, S₄, q₄⟩) fun _ _ x => x
noncomputable abbrev KAug (c : Cx) (k : Nat) (op : Operator) (x : Str) (v₀ : MV) (ml : Loc) (R : Fl → Loc → MH → Prop) : MV → MH → Prop := fun v σ₁ => OW c k (inplaceW op) [v₀, v] σ₁ (KAsg x ml R)
theorem s_augname {x : Str} {p : Pos} {op : Operator} {e : Expr} {v₀ : MV} (hv : getM x ml = some v₀) (h : EW c k cs e ml σ (KAug c k op x v₀ ml R))
    (hl : cs.names.lookup x = some .local := by kernel_rfl) : S1 c k cs (.AugAssign (.Name x p) op e pos) ml σ R := by
  intro A cn L a cd h₀ Z m s P S
  obtain ⟨cv, hm, hr⟩ := S.loc x v₀ hv
  refine wpAny_AugAssign_Name (wpAny_loadName_local P.kind hl S.F.ns hm ?_)
  refine mono_post (α := Unit) (h A cn L a cd h₀ Z m s P S) fun mv σ₁ Z₁ v s₁ hz V S₁ q => ?_
  refine mono_post (α := Unit) (q A cn cs L a cd h₀ Z₁ m ml s₁ [cv, v] P S₁ (.cons (hr.mono hz) (.cons V .nil))) fun r σ₂ Z₂ v' s₂ hz₂ V' S₂ q₂ => ?_
  exact store_w P S₂ V' hl fun s' m' S' => ⟨.next, _, σ₂, Z₂, m', hz.trans hz₂, .next, S', q₂⟩
noncomputable abbrev KAa3 (c : Cx) (k : Nat) (n : Str) (ml : Loc) (R : Fl → Loc → MH → Prop) (ov : MV) : MV → MH → Prop := fun r σ₃ => UW c k (setAttrW n) [ov, r] σ₃ (R .next ml)
noncomputable abbrev KAa2 (c : Cx) (k : Nat) (op : Operator) (n : Str) (ml : Loc) (R : Fl → Loc → MH → Prop) (ov old : MV) : MV → MH → Prop := fun v σ₂ => OW c k (inplaceW op) [old, v] σ₂ (KAa3 c k n ml R ov)
noncomputable abbrev KAa (c : Cx) (k : Nat) (cs : Scope) (op : Operator) (n : Str) (e : Expr) (ml : Loc) (R : Fl → Loc → MH → Prop) : MV → MH → Prop := fun ov σ₁ => ∃ old, GA c k ov σ₁ n old ∧ EW c k cs e ml σ₁ (KAa2 c k op n ml R ov old)
theorem s_augattr {o e : Expr} {n : Str} {p : Pos} {op : Operator} (h : EW c k cs o ml σ (KAa c k cs op n e ml R)) :
    S1 c k cs (.AugAssign (.Attribute o n p) op e pos) ml σ R := by
  intro A cn L a cd h₀ Z m s P S
  refine wpAny_AugAssign_AttributeAny (mono_post (α := Unit) (h A cn L a cd h₀ Z m s P S) fun ov σ₁ Z₁ v s₁ hz V S₁ ⟨old, hg, q⟩ => ?_)
  refine hg A cn cs L a cd h₀ Z₁ m ml s₁ v _ _ P S₁ V fun rv s₂ V₂ S₂ => ?_
  refine mono_post (α := Unit) (q A cn L a cd h₀ Z₁ m s₂ P S₂) fun mv σ₂ Z₂ v' s₃ hz₂ V' S₃ q₂ => ?_
  refine mono_post (α := Unit) (q₂ A cn cs L a cd h₀ Z₂ m ml s₃ [rv, v'] P S₃ (.cons (V₂.mono hz₂) (.cons V' .nil))) fun r σ₃ Z₃ v'' s₄ hz₃ V'' S₄ q₃ => ?_
  exact wpAny_mono (q₃ A cn cs L a cd h₀ Z₃ m ml s₄ [v, v''] P S₄ (.cons ((V.mono hz₂).mono hz₃) (.cons V'' .nil))) (fun _ s' ⟨σ₄, S₅, q₄⟩ => ⟨.next, ml, σ₄, Z₃, m, (hz.trans hz₂).trans hz₃, .next, S₅, q₄⟩) fun _ _ x => x
theorem s_augitem {o i e : Expr} {p : Pos} {op : Operator} (h : EW c k cs o ml σ fun ov σ₁ => EW c k cs i ml σ₁ fun iv σ₂ => OW c k getItemW [ov, iv] σ₂ fun old σ₃ => EW c k cs e ml σ₃ fun v σ₄ => OW c k (inplaceW op) [old, v] σ₄ fun r σ₅ => UW c k setItemW [ov, iv, r] σ₅ (R .next ml))
    (ha : ∀ ov iv new, PySem.augStore i ov iv new = (do holding [new, ov, iv] (setItem ov iv new); release [new, ov, iv] []; pure .next) := by intro _ _ _; rfl) :
    S1 c k cs (.AugAssign (.Subscript o i p) op e pos) ml σ R := by
  intro A cn L a cd h₀ Z m s P S
  refine wpAny_AugAssign_Subscript_any (mono_post (α := Unit) (h A cn L a cd h₀ Z m s P S) fun ov σ₁ Z₁ v₁ s₁ hz V₁ S₁ q₁ => ?_) ha
  refine mono_post (α := Unit) (q₁ A cn L a cd h₀ Z₁ m s₁ P S₁) fun iv σ₂ Z₂ v₂ s₂ hz₂ V₂ S₂ q₂ => ?_
  refine mono_post (α := Unit) (q₂ A cn cs L a cd h₀ Z₂ m ml s₂ [v₁, v₂] P S₂ (.cons (V₁.mono hz₂) (.cons V₂ .nil))) fun old σ₃ Z₃ v₃ s₃ hz₃ V₃ S₃ q₃ => ?_
  refine mono_post (α := Unit) (q₃ A cn L a cd h₀ Z₃ m s₃ P S₃) fun v σ₄ Z₄ v₄ s₄ hz₄ V₄ S₄ q₄ => ?_
  refine mono_post (α := Unit) (q₄ A cn cs L a cd h₀ Z₄ m ml s₄ [v₃, v₄] P S₄ (.cons (V₃.mono hz₄) (.cons V₄ .nil))) fun r σ₅ Z₅ v₅ s₅ hz₅ V₅ S₅ q₅ => ?_
  exact wpAny_mono (q₅ A cn cs L a cd h₀ Z₅ m ml s₅ [v₁, v₂, v₅] P S₅ (.cons ((((V₁.mono hz₂).mono hz₃).mono hz₄).mono hz₅) (.cons (((V₂.mono hz₃).mono hz₄).mono hz₅) (.cons V₅ .nil))))
    (fun _ s' ⟨σ₆, S₆, q₆⟩ => ⟨.next, ml, σ₆, Z₅, m, (((hz.trans hz₂).trans hz₃).trans hz₄).trans hz₅, .next, S₆, q₆⟩) fun _ _ x => x

/-- a while loop, from a state on -/
noncomputable def WW (c : Cx) (k : Nat) (cs : Scope) (t : Expr) (b : List Stmt) (ml : Loc) (σ : MH) (R : Fl → Loc → MH → Prop) : Prop :=
  ∀ (A : Around) (cn : Str) (L a : Addr) (cd : Value) (h₀ : Heap) (Z : Zm) (m : Str → Option Value) (s : Shared),
    Pt c k A (envOf cn cs L a cd) h₀ L → SR c h₀ L Z m ml σ s →
    codeAny c.M A (.whileLoop t b [] (envOf cn cs L a cd)) (fun r s' => match r with | .ok f => PostS c h₀ L Z R f s' | .error _ => False) s
theorem s_while {t : Expr} {b : List Stmt} (h : WW c k cs t b ml σ R) : S1 c k cs (.While t b [] pos) ml σ R := by
  intro A cn L a cd h₀ Z m s P S
  exact wpAny_While (codeAny_mono (h A cn L a cd h₀ Z m s P S) fun r s' q => by cases r <;> first | exact q | exact q.elim)
theorem codeAny_while1 {prog : Program} {w : World} {A : Around} {RR : Result → Shared → Prop} {s : Shared} {t : Expr} {b : List Stmt} {env : Env}
    (h : wpAny (model prog w) A (isTrue t env (eval t env)) (fun v s₁ => if v = true then wpAny (model prog w) A (execs b env) (fun f s₂ => match f with
            | .next | .cont => codeAny (model prog w) A (.whileLoop t b [] env) RR s₂
            | .brk => RR (.ok .next) s₂
            | .ret v => RR (.ok (.ret v)) s₂) (fun _ _ => False) s₁ else RR (.ok .next) s₁) (fun _ _ => False) s) : codeAny (model prog w) A (.whileLoop t b [] env) RR s := by
  refine codeAny_of_own (wpOwn_of_wpAny ?_)
  show wpAny _ (A.under _) ((whileTurn t b [] env).onRaise (fun x => do noteFrame x env; theTreesLotGoes x)) _ _ s
  rw [Around.under_of_weight (show (Code.whileLoop t b [] env).weight = 0 from rfl)]
  refine wpAny_onRaise (wpAny_mono (Q := fun fin s' => match fin with | .done f => RR (.ok f) s' | .again c' => c'.quiet = true ∧ codeAny (model prog w) A c' RR s') (E := fun _ _ => False) ?_ (fun fin s' q => by cases fin <;> exact q) fun _ _ x => x.elim)
  unfold whileTurn
  refine wpAny_bind (wpAny_mono h (fun v s₁ q => ?_) fun _ _ x => x)
  cases v with
  | false => exact wpAny_bind (wpAny_execs_nil (wpAny_pure q))
  | true =>
    refine wpAny_bind (wpAny_mono q (fun f s₂ q₂ => ?_) fun _ _ x => x)
    cases f with
    | next => exact wpAny_pure ⟨rfl, q₂⟩
    | cont => exact wpAny_pure ⟨rfl, q₂⟩
    | brk => exact wpAny_pure q₂
    | ret v => exact wpAny_pure q₂
theorem ww_turn {t : Expr} {b : List Stmt} (h : TW c k cs t ml σ fun v σ₁ => if v = true then SW c k cs b ml σ₁ (fun fl ml₂ σ₂ => match fl with
      | .next | .cont => WW c k cs t b ml₂ σ₂ R
      | .brk => R .next ml₂ σ₂
      | .ret v => R (.ret v) ml₂ σ₂) else R .next ml σ₁) : WW c k cs t b ml σ R := by
  intro A cn L a cd h₀ Z m s P S
  refine codeAny_while1 (wpAny_mono (h A cn L a cd h₀ Z m s _ P S rfl) (fun v s₁ ⟨σ₁, Z₁, hz, S₁, q⟩ => ?_) fun _ _ x => x)
  cases v with
  | false => exact ⟨.next, ml, σ₁, Z₁, m, hz, .next, S₁, q⟩
  | true =>
    refine wpAny_mono (q A cn L a cd h₀ Z₁ m s₁ P S₁) (fun f s₂ ⟨fl, ml₂, σ₂, Z₂, m₂, hz₂, hf, S₂, q₂⟩ => ?_) fun _ _ x => x
    have go : WW c k cs t b ml₂ σ₂ R → codeAny (model c.prog c.w) A (.whileLoop t b [] (envOf cn cs L a cd)) (fun r s' => match r with | .ok f => PostS c h₀ L Z R f s' | .error _ => False) s₂ := fun q₃ =>
      codeAny_mono (q₃ A cn L a cd h₀ Z₂ m₂ s₂ P S₂) fun r s' y => by cases r with | ok f => exact (y.up hz₂).up hz | error e => exact y
    cases hf with
    | next => exact go q₂
    | cont => exact go q₂
    | brk => exact ⟨.next, ml₂, σ₂, Z₂, m₂, hz.trans hz₂, .next, S₂, q₂⟩
    | ret V => exact ⟨.ret _, ml₂, σ₂, Z₂, m₂, hz.trans hz₂, .ret V, S₂, q₂⟩
end

/-- a call as a code -/
noncomputable def FW (c : Cx) (k : Nat) (f : Value) (as : List MV) (σ : MH) (Q : MV → MH → Prop) : Prop :=
  ∀ (A : Around) (cn : Str) (cs : Scope) (L a : Addr) (cd : Value) (h₀ : Heap) (Z : Zm) (m : Str → Option Value) (ml : Loc) (s : Shared) (vs : List Value),
    Pt c k A (envOf cn cs L a cd) h₀ L → SR c h₀ L Z m ml σ s → VRs Z as vs →
    codeAny c.M A (.call f ⟨vs, []⟩) (fun r s' => match r with | .ok (.ret v) => Post c h₀ L Z m ml Q v s' | .ok _ => False | .error _ => False) s
theorem FW.cw {c : Cx} {k : Nat} {f : Value} {as : List MV} {σ : MH} {Q : MV → MH → Prop} (h : FW c k f as σ Q) : CW c k f as σ Q :=
  fun A cn cs L a cd h₀ Z m ml s vs P S V => wpAny_call (h A cn cs L a cd h₀ Z m ml s vs P S V)
theorem FW.mono {c : Cx} {k : Nat} {f : Value} {as : List MV} {σ : MH} {Q Q' : MV → MH → Prop} (h : FW c k f as σ Q) (hq : ∀ v σ, Q v σ → Q' v σ) : FW c k f as σ Q' :=
  fun A cn cs L a cd h₀ Z m ml s vs P S V => codeAny_mono (h A cn cs L a cd h₀ Z m ml s vs P S V) fun r s' q => by
    rcases r with e | (v | _ | _ | _) <;> first | exact q.elim | exact q.mono hq
theorem FW.le {c : Cx} {k k' : Nat} {f : Value} {as : List MV} {σ : MH} {Q : MV → MH → Prop} (h : FW c k f as σ Q) (hk : k ≤ k') : FW c k' f as σ Q :=
  fun A cn cs L a cd h₀ Z m ml s vs P S V => h A cn cs L a cd h₀ Z m ml s vs (P.le hk) S V
theorem FW.ghost {c : Cx} {k : Nat} {f : Value} {as : List MV} {σ : MH} {Q : MV → MH → Prop} (h : FW c k f as σ (Gh c Q)) : FW c k f as σ Q :=
  fun A cn cs L a cd h₀ Z m ml s vs P S V => codeAny_mono (h A cn cs L a cd h₀ Z m ml s vs P S V) fun r s' q => by
    rcases r with e | (v | _ | _ | _) <;> first | exact q.elim | skip
    obtain ⟨mv, σ', Z', z, V', S', q⟩ := q
    exact (q _ _ _ _ _ _ _ V' S').up z

noncomputable def scopeOK (scope : Scope) (names : List Str) : Bool :=
  !scope.isCoroutine && !scope.isGenerator && (scope.kind == .function) && (names.all fun x => scope.names.lookup x == some .local) && (scope.names.all fun x => x.2 != .cell) && decide names.Nodup

structure Fdef (c : Cx) (f : Addr) (qual : Str) (body : List Stmt) (scope : Scope) (names : List Str) (n : Nat) (dflt : List MV) : Prop where
  ex : ∃ name params dV kV doc pm an cdv ct oc od osl, c.K.lookup f = some ⟨oc, od, .func (fnOf name qual params body scope dV kV doc pm an cdv ct), osl⟩ ∧ codeIn c.K cdv qual = true ∧
    (∀ (s : Shared) (vs : List Value), c.K.In s.heap → vs.length = n → ∃ dvs : List Value, (∀ Z, VRs Z dflt dvs) ∧ BindsTo s (fnOf name qual params body scope dV kV doc pm an cdv ct) ⟨vs, []⟩ (names.zip (vs ++ dvs)))
  ok : scopeOK scope names = true

noncomputable def retP (Q : MV → MH → Prop) : Fl → Loc → MH → Prop := fun fl _ σ => match fl with
  | .ret v => Q v σ
  | _ => Q .none σ

theorem lookup_zip {Z : Zm} : ∀ {names : List Str} {ms : List MV} {vs : List Value}, names.Nodup → VRs Z ms vs → LR Z (names.zip ms) (fun y => (names.zip vs).reverse.lookup y)
  | [], _, _, _, _ => fun x v e => by simp [getM] at e
  | _ :: _, _, _, _, .nil => fun x v e => by simp [getM] at e
  | n :: names, _, _, hn, .cons (m := m) (v := v) (ms := ms) (vs := vs) V r => fun x w e => by
    obtain ⟨h1, h2⟩ := List.nodup_cons.mp hn
    have ih := lookup_zip h2 r
    simp only [List.zip_cons_cons, getM] at e
    simp only [List.zip_cons_cons, List.reverse_cons, List.lookup_append]
    by_cases hx : x = n
    · subst hx
      rw [if_pos rfl] at e
      cases e
      have : (names.zip vs).reverse.lookup x = none := by
        rw [List.lookup_eq_none_iff]
        intro p hp
        have hp := List.mem_reverse.mp hp
        have := (List.of_mem_zip (a := p.1) (b := p.2) hp).1
        simp only [beq_eq_false_iff_ne, ne_eq, bne_iff_ne]
        intro e
        subst e
        exact h1 this
      exact ⟨v, by simp [this, List.lookup_cons], V⟩
    · rw [if_neg hx] at e
      obtain ⟨cv, a, b⟩ := ih x w e
      exact ⟨cv, by simp [a], b⟩

section
variable {c : Cx} {k : Nat} {σ : MH} {Q : MV → MH → Prop}

theorem fn_intro {f : Addr} {qual : Str} {body : List Stmt} {scope : Scope} {names : List Str} {n : Nat} {dflt as : List MV} (D : Fdef c f qual body scope names n dflt) (hn : as.length = n)
    (h : SW c k scope body (names.zip (as ++ dflt)) σ (retP Q)) : FW c (k + 1) (.ref f) as σ Q := by
  intro A cn cs L a cd h₀ Z m ml s vs P S V
  obtain ⟨⟨A₀, base, outer, B, hA⟩, hfr, hkind, X, T, hdep, hun, hh, hol, hov⟩ := P
  obtain ⟨⟨name, params, dV, kV, doc, pm, an, cdv, ct, oc, od, osl, ho, hcd, hb⟩, hok⟩ := D
  obtain ⟨news, N, C⟩ := S.led
  obtain ⟨dvs, Vd, hbind⟩ := hb s vs (X.keeps S.F.keep) (V.length.trans hn)
  unfold scopeOK at hok
  simp only [Bool.and_eq_true, Bool.not_eq_true', beq_iff_eq, List.all_eq_true, bne_iff_ne, decide_eq_true_eq] at hok
  obtain ⟨⟨⟨⟨⟨o1, o2⟩, o3⟩, o4⟩, o5⟩, o6⟩ := hok
  have VV := V.append (Vd Z)
  refine code_def B S.F X N T hA hfr hkind ho hcd (by lia) hbind (fun y hy => o4 _ (List.of_mem_zip (a := y.1) (b := y.2) hy).1) (fun g L' h₁ FG F' N' B' X' T' => ?_) o1 o2 o3 o5
  have P' : Pt c k (A.deeper (envOf qual scope L' f cdv)) (envOf qual scope L' f cdv) g L' := ⟨⟨_, _, _, B', Around.frames_deeper hA⟩, rfl, o3, X', T', by show A.depth + 1 + 3 * k + 10 < _; lia, by show A.units + 3 + 16 * k + 100 < _; lia, hh, (let ⟨o, ho, r⟩ := hol; ⟨o, FG.keep _ _ ho, r⟩), hov⟩
  have S' : SR c g L' Z (fun y => (names.zip (vs ++ dvs)).reverse.lookup y) (names.zip (as ++ dflt)) σ { s with heap := h₁, toks := s.toks + (names.zip (vs ++ dvs)).length } :=
    ⟨F', lookup_zip o6 VV, ⟨news, N', C⟩, S.gens, S.drawn, S.os⟩
  refine wpAny_mono (h _ qual L' f cdv g Z _ _ P' S') (fun fl s' ⟨fl', ml', σ', Z', m', hz, hf, S₂, q⟩ => ?_) fun _ _ x => x.elim
  obtain ⟨news', N₂, C₂⟩ := S₂.led
  refine leaveK_ S₂.F N₂ fun Fc Nc => ?_
  have S₃ : SR c h₀ L Z' m ml σ' s' := ⟨Fc, S.loc.mono hz, ⟨news', Nc, C₂⟩, S₂.gens, S₂.drawn, S₂.os⟩
  cases hf with
  | next => exact ⟨.none, σ', Z', hz, .none, S₃, q⟩
  | brk => exact ⟨.none, σ', Z', hz, .none, S₃, q⟩
  | cont => exact ⟨.none, σ', Z', hz, .none, S₃, q⟩
  | ret V' => exact ⟨_, σ', Z', hz, V', S₃, q⟩

/-- a class of the text: what its making, its attributes and its stores ask -/
structure Cdef (c : Cx) (C : Addr) (names : List Str) (meths : List (Str × Addr)) : Prop where
  makes : makesIn c.K C = true
  get : plainGet c.K C (Str.ofString "") = true
  hasd : hasDictIn c.K C = true
  sets : findIn c.K (.ref C) "__setattr__" = some (some (.builtin "object.__setattr__"))
  over : plainOver c.K C = true
  none : ∀ x ∈ names, findIn c.K (.ref C) x = some Option.none ∧ takerIn c.K C x = some Option.none
  meth : ∀ x f, (x, f) ∈ meths → findIn c.K (.ref C) x = some (some (.ref f)) ∧ isFn c.K (.ref f) = true ∧ keepIn c.K (.ref f) = true

theorem under_make {A : Around} {pos : List Value} {kw : List (Str × Value)} {C : Addr} : A.under (.builtin "type.__call__" ⟨.ref C :: pos, kw⟩) = { A with depth := A.depth + 1, units := A.units + 1 } := by
  obtain ⟨hd, d, fr, gs, u⟩ := A
  rfl

theorem cw_class {C fI : Addr} {names : List Str} {meths : List (Str × Addr)} {as : List MV} (D : Cdef c C names meths) (hi : (("__init__" : Str), fI) ∈ meths)
    (h : ∀ x dx, σ x = none → σ dx = none → x ≠ dx → FW c k (.ref fI) (.ref x :: as) (updH (updH σ dx (.ns [])) x (.inst C dx)) fun v σ' => v = .none ∧ Q (.ref x) σ') : CW c (k + 1) (.ref C) as σ Q := by
  intro A cn cs L a cd h₀ Z m ml s vs P S V
  obtain ⟨news, N, C'⟩ := S.led
  refine call_cls S.F P.kin N D.makes (D.meth _ _ hi).1 (D.meth _ _ hi).2.1 fun x dx h' F' N' lt hlt => ?_
  have N1 : News h₀ L h' ((dx, dictOf [] 0) :: news) := fun p hp => N' p (.tail _ hp)
  obtain ⟨hd, S1⟩ := S.push C' s.toks F' N1 lt (.ns (.nil (Z := Z))) trivial
  obtain ⟨news1, N1', C1⟩ := S1.led
  have hx : σ x = none ∧ Z x = none := cov_fresh C' fun p hp => Nat.lt_trans (lt p hp) hlt
  have C1 : Cov c Z (updH σ dx (.ns [])) ((dx, dictOf [] 0) :: news) := ⟨fun b o e => by
      by_cases hb : b = dx
      · subst hb
        rw [updH_same] at e
        cases e
        exact ⟨(cov_fresh C' lt).2, trivial, _, .head _, .ns .nil⟩
      · rw [updH_ne hb] at e
        obtain ⟨z, zk, xb, xm, xo⟩ := C'.1 b o e
        exact ⟨z, zk, xb, .tail _ xm, xo⟩, fun b o e => .tail _ (C'.2 b o e)⟩
  obtain ⟨_, S2⟩ := S1.push C1 s.toks F' N' (fun p hp => by
    rcases List.mem_cons.mp hp with rfl | hp
    · exact hlt
    · exact Nat.lt_trans (lt p hp) hlt) (.inst (c := c) (Z := Z) (C := C) (d := dx)) trivial
  have P' : Pt c k (A.under (.builtin "type.__call__" ⟨.ref C :: vs, []⟩)) (envOf cn cs L a cd) h₀ L := by
    rw [under_make]
    exact ⟨P.below, P.fr, P.kind, P.kin, P.top, by have := P.depth; show A.depth + 1 + 3 * k + 10 < _; lia, by have := P.units; show A.units + 1 + 16 * k + 100 < _; lia, P.hand, P.old⟩
  refine codeAny_mono (h x dx hx.1 hd (Nat.ne_of_gt hlt) _ cn cs L a cd h₀ Z m ml _ (.ref x :: vs) P' S2 (.cons (.ref x) V)) fun r s' q => ?_
  rcases r with e | (v | _ | _ | _) <;> first | exact q.elim | skip
  obtain ⟨mv, σ', Z', hz, V', S', rfl, q⟩ := q
  cases V'
  exact ⟨rfl, .ref x, σ', Z', hz, .ref x, S', q⟩
end

noncomputable def getF (x : Str) : List (Str × MV) → Option MV
  | [] => none
  | (y, v) :: r => @ite _ (x = y) (Fast.sDec x y) (some v) (getF x r)
noncomputable def putF (x : Str) (v : MV) : List (Str × MV) → List (Str × MV)
  | [] => [(x, v)]
  | (y, w) :: r => @ite _ (x = y) (Fast.sDec x y) ((y, v) :: r) ((y, w) :: putF x v r)

theorem VR.handed {Z : Zm} {m : MV} {v : Value} (h : VR Z m v) : handedIn v = true := by cases h <;> rfl

theorem VRf.noRef {Z : Zm} {fs : List (Str × MV)} {es : List DictEntry} (h : VRf Z fs es) : es.any (·.refKey) = false := by
  induction fs generalizing es with
  | nil => cases h; rfl
  | cons p fs ih =>
    cases h with
    | cons V r =>
      rw [List.any_cons, ih r]
      rfl
theorem getL_some {Z : Zm} {x : Str} {r : MV} {fs : List (Str × MV)} {es : List DictEntry} (h : VRf Z fs es) (e : getF x fs = some r) : ∃ cv, getL x es = some (some cv) ∧ VR Z r cv := by
  have key : ∃ en, es.find? (·.key.isStr x) = some en ∧ VR Z r en.val := by
    induction fs generalizing es with
    | nil => simp [getF] at e
    | cons p fs ih =>
      obtain ⟨y, w⟩ := p
      cases h with
      | @cons _ t h0 _ v _ es' V r' =>
        unfold getF at e
        by_cases hx : x = y
        · subst hx
          rw [if_pos rfl] at e
          cases e
          exact ⟨⟨h0, .str x t, v⟩, by rw [List.find?_cons]; simp [Value.isStr], V⟩
        · rw [if_neg hx] at e
          obtain ⟨en, a, b⟩ := ih r' e
          refine ⟨en, ?_, b⟩
          rw [List.find?_cons]
          have : (Value.str y t).isStr x = false := by
            show (y == x) = false
            exact beq_eq_false_iff_ne.mpr fun q => hx q.symm
          rw [this]; exact a
  obtain ⟨en, a, b⟩ := key
  exact ⟨en.val, by unfold getL; rw [a], b⟩
theorem getL_none {Z : Zm} {x : Str} {fs : List (Str × MV)} {es : List DictEntry} (h : VRf Z fs es) (e : getF x fs = none) : getL x es = some none := by
  have key : es.find? (·.key.isStr x) = none := by
    induction fs generalizing es with
    | nil => cases h; rfl
    | cons p fs ih =>
      obtain ⟨y, w⟩ := p
      cases h with
      | @cons _ t h0 _ v _ es' V r' =>
        unfold getF at e
        by_cases hx : x = y
        · rw [if_pos hx] at e; cases e
        · rw [if_neg hx] at e
          rw [List.find?_cons]
          have : (Value.str y t).isStr x = false := by
            show (y == x) = false
            exact beq_eq_false_iff_ne.mpr fun q => hx q.symm
          rw [this]; exact ih r' e
  unfold getL
  rw [key, h.noRef]
  rfl
theorem getL_isSome {Z : Zm} {x : Str} {fs : List (Str × MV)} {es : List DictEntry} (h : VRf Z fs es) : (getL x es).isSome = true := by
  cases e : getF x fs with
  | none => rw [getL_none h e]; rfl
  | some r => obtain ⟨cv, a, _⟩ := getL_some h e; rw [a]; rfl
theorem putL_vrf {Z : Zm} {x : Str} {hsh : Int} {t : Tok} {m : MV} {v : Value} {fs : List (Str × MV)} {es : List DictEntry} (h : VRf Z fs es) (V : VR Z m v) : VRf Z (putF x m fs) (putL x hsh (.str x t) v es) ∧ (putL x hsh (.str x t) v es).length ≤ es.length + 1 := by
  induction fs generalizing es with
  | nil => cases h; exact ⟨.cons V .nil, Nat.le_refl _⟩
  | cons p fs ih =>
    obtain ⟨y, w⟩ := p
    cases h with
    | @cons _ t' h0 _ v' _ es' V' r' =>
      unfold putF putL
      by_cases hx : x = y
      · subst hx
        rw [if_pos rfl, if_pos (by simp [Value.isStr])]
        exact ⟨.cons V r', Nat.le_succ _⟩
      · have : ¬ (Value.str y t').isStr x = true := by
          show ¬ (y == x) = true
          rw [beq_eq_false_iff_ne.mpr fun q => hx q.symm]; decide
        rw [if_neg hx, if_neg this]
        obtain ⟨a, b⟩ := ih r'
        exact ⟨.cons V' a, by simpa using b⟩
theorem VRf.length {Z : Zm} {fs : List (Str × MV)} {es : List DictEntry} (h : VRf Z fs es) : es.length = fs.length := by
  induction fs generalizing es with
  | nil => cases h; rfl
  | cons p fs ih => cases h with | cons V r => simp [ih r]

theorem vrs1 {Z : Zm} {x : MV} {vs : List Value} (h : VRs Z [x] vs) : ∃ v, vs = [v] ∧ VR Z x v := by
  cases h with | cons a b => cases b; exact ⟨_, rfl, a⟩
theorem vrs2 {Z : Zm} {x y : MV} {vs : List Value} (h : VRs Z [x, y] vs) : ∃ v w, vs = [v, w] ∧ VR Z x v ∧ VR Z y w := by
  cases h with | cons a b => cases b with | cons b c => cases c; exact ⟨_, _, rfl, a, b⟩
theorem vrs3 {Z : Zm} {x y z : MV} {vs : List Value} (h : VRs Z [x, y, z] vs) : ∃ u v w, vs = [u, v, w] ∧ VR Z x u ∧ VR Z y v ∧ VR Z z w := by
  cases h with | cons a b => cases b with | cons b c => cases c with | cons c d => cases d; exact ⟨_, _, _, rfl, a, b, c⟩

section
variable {c : Cx} {k : Nat} {cs : Scope} {ml : Loc} {σ : MH} {Q : MV → MH → Prop} {pos : Pos}
variable {C : Addr} {names : List Str} {meths : List (Str × Addr)}

/-- made objects -/
theorem ga_inst {x dx : Addr} {name : Str} {fs : List (Str × MV)} {r : MV} (D : Cdef c C names meths) (h1 : σ x = some (.inst C dx)) (h2 : σ dx = some (.ns fs)) (hn : name ∈ names) (h3 : getF name fs = some r) :
    GA c k (.ref x) σ name r := by
  intro A cn cs L a cd h₀ Z m ml s v ex R P S V q
  cases V
  obtain ⟨ox, hox, hx, _⟩ := S.at h1
  obtain ⟨od, hod, hd, _⟩ := S.at h2
  cases hox
  cases hod with
  | ns hv =>
    obtain ⟨cv, hg, V⟩ := getL_some hv h3
    exact get_own S.F P.kin ⟨hx, rfl, rfl, hd⟩ D.get D.hasd (D.none _ hn).1 rfl hg V.handed (q cv _ V (S.toks _))
theorem ga_finst {name : Str} {fs : List (Str × MV)} {r : MV} (D : Cdef c C names meths) (hn : name ∈ names) (h3 : getF name fs = some r) : GA c k (.finst C fs) σ name r := by
  intro A cn cs L a cd h₀ Z m ml s v ex R P S V q
  cases V with
  | finst hz hz' hv =>
    obtain ⟨cv, hg, V⟩ := getL_some hv h3
    exact get_own S.F P.kin ⟨(S.atZ hz).1, rfl, rfl, (S.atZ hz').1⟩ D.get D.hasd (D.none _ hn).1 rfl hg V.handed (q cv _ V (S.toks _))
theorem mi_inst {x dx f : Addr} {name : Str} {fs : List (Str × MV)} (D : Cdef c C names meths) (h1 : σ x = some (.inst C dx)) (h2 : σ dx = some (.ns fs)) (hm : (name, f) ∈ meths) (h3 : getF name fs = none) :
    MethIs c k (.ref x) σ name (.ref f) := by
  intro A cn cs L a cd h₀ Z m ml s v pl R P S V q
  cases V
  obtain ⟨ox, hox, hx, _⟩ := S.at h1
  obtain ⟨od, hod, hd, _⟩ := S.at h2
  cases hox
  cases hod with
  | ns hv => exact method_inst S.F P.kin ⟨hx, rfl, rfl, hd⟩ D.get (D.meth _ _ hm).1 (D.meth _ _ hm).2.1 (getL_none hv h3) (q s S)
theorem uw_setattr {x dx : Addr} {name : Str} {fs : List (Str × MV)} {v : MV} {R : MH → Prop} (D : Cdef c C names meths) (h1 : σ x = some (.inst C dx)) (h2 : σ dx = some (.ns fs)) (hn : name ∈ names) (hl : fs.length ≤ 900)
    (q : R (updH σ dx (.ns (putF name v fs)))) : UW c k (setAttrW name) [.ref x, v] σ R := by
  intro A cn cs L a cd h₀ Z m ml s vs P S V
  obtain ⟨v₁, v₂, rfl, V₁, V₂⟩ := vrs2 V
  cases V₁
  obtain ⟨ox, hox, hx, _⟩ := S.at h1
  obtain ⟨od, rest, hod, N, hr, ⟨hz, hk⟩, up⟩ := S.open h2
  cases hox
  cases hod with
  | @ns _ es n hv =>
    obtain ⟨p1, p2⟩ := putL_vrf (x := name) (hsh := PyData.keyHash c.w.params name) (t := s.toks + 1) hv V₂
    refine set_dict S.F P.kin N ⟨hx, rfl, rfl, (N _ (.head _)).1⟩ rfl D.sets D.over (D.none _ hn).2 D.hasd (getL_isSome hv) rfl (.head hr) (Nat.le_trans p2 (by have := hv.length; lia)) fun h' F' N' => ?_
    exact ⟨_, up h' _ _ _ F' N' (.ns p1) trivial, q⟩

/-- a list, of the abstract heap or frozen -/
noncomputable def ListAt (c : Cx) (ov : MV) (σ : MH) (ms : List MV) : Prop :=
  ∀ (h₀ : Heap) (L : Addr) (Z : Zm) (m : Str → Option Value) (ml : Loc) (s : Shared) (v : Value), SR c h₀ L Z m ml σ s → VR Z ov v → ∃ a vs n, v = .ref a ∧ s.heap.get? a = some (listOf vs.toArray n) ∧ VRs Z ms vs
theorem la_ref {a : Addr} {ms : List MV} (h : σ a = some (.list ms)) : ListAt c (.ref a) σ ms := by
  intro h₀ L Z m ml s v S V
  cases V
  obtain ⟨ob, ho, hg, _⟩ := S.at h
  cases ho with | @list _ vs n hv => exact ⟨a, vs, n, rfl, hg, hv⟩
theorem la_flist {ms : List MV} : ListAt c (.flist ms) σ ms := by
  intro h₀ L Z m ml s v S V
  cases V with | flist hz hv => exact ⟨_, _, _, rfl, (S.atZ hz).1, hv⟩
theorem VRs.get {Z : Zm} {ms : List MV} {vs : List Value} (h : VRs Z ms vs) {i : Nat} {r : MV} (e : ms[i]? = some r) : ∃ v, vs[i]? = some v ∧ VR Z r v := by
  induction ms generalizing vs i with
  | nil => simp at e
  | cons m ms ih =>
    cases h with
    | cons a b =>
      cases i with
      | zero => simp at e; subst e; exact ⟨_, rfl, a⟩
      | succ i => simp at e; obtain ⟨v, p, q⟩ := ih b e; exact ⟨v, by simpa using p, q⟩

/-- what is subscripted by no slice: the kind of its holder -/
noncomputable def SubT (c : Cx) (ov : MV) (σ : MH) : Prop :=
  ∃ T id, typeLookup (.type T) "__getitem__" = pure (some (.builtin id)) ∧ ∀ (h₀ : Heap) (L : Addr) (Z : Zm) (m : Str → Option Value) (ml : Loc) (s : Shared) (v : Value), SR c h₀ L Z m ml σ s → VR Z ov v → s.TypeIs v T
theorem st_list {ov : MV} {ms : List MV} (h : ListAt c ov σ ms) : SubT c ov σ := by
  refine ⟨"list", _, PySem.slot_list_getitem.lookup, fun h₀ L Z m ml s v S V => ?_⟩
  obtain ⟨a, vs, n, rfl, hg, _⟩ := h h₀ L Z m ml s v S V
  exact ⟨_, hg, rfl⟩
theorem st_tup {ms : List MV} : SubT c (.tup ms) σ := by
  refine ⟨"tuple", _, PyProof.Rows.slot_tuple_getitem.lookup, fun h₀ L Z m ml s v S V => ?_⟩
  cases V with | tup hz hv => exact ⟨_, (S.atZ hz).1, rfl⟩
theorem st_str {x : Str} : SubT c (.str x) σ := by
  refine ⟨"str", _, PySem.F.slot_str_getitem.lookup, fun h₀ L Z m ml s v S V => ?_⟩
  cases V; exact typeIs_str _ _ _
theorem st_sd {a : Addr} {fs : List (Str × MV)} (h : σ a = some (.sd fs)) : SubT c (.ref a) σ := by
  refine ⟨"dict", _, PySem.slot_dict_getitem.lookup, fun h₀ L Z m ml s v S V => ?_⟩
  cases V
  obtain ⟨ob, ho, hg, _⟩ := S.at h
  cases ho with | sd hd hv => exact ((Heap.dictOf_iff.mpr ⟨_, hg, hd⟩).mapOf).typeIs

noncomputable def noSlice : Expr → Bool
  | .Slice .. => false
  | _ => true
theorem subscripted_plain {sl : Expr} {o i : Value} (h : noSlice sl = true) : subscripted sl false o i = operate [o, i] (getItem o i) := by
  cases sl <;> first | rfl | cases h
noncomputable abbrev KSub2 (c : Cx) (k : Nat) (Q : MV → MH → Prop) (ov : MV) : MV → MH → Prop := fun iv σ₂ => SubT c ov σ₂ ∧ OW c k getItemW [ov, iv] σ₂ Q
noncomputable abbrev KSub (c : Cx) (k : Nat) (cs : Scope) (i : Expr) (ml : Loc) (Q : MV → MH → Prop) : MV → MH → Prop := fun ov σ₁ => EW c k cs i ml σ₁ (KSub2 c k Q ov)
theorem ew_sub {v i : Expr} (h : EW c k cs v ml σ (KSub c k cs i ml Q)) (hs : noSlice i = true := by rfl) : EW c k cs (.Subscript v i pos) ml σ Q := by
  intro A cn L a cd h₀ Z m s P S
  refine Subscript_ (mono_post (α := Unit) (h A cn L a cd h₀ Z m s P S) fun ov σ₁ Z₁ v₁ s₁ hz V₁ S₁ q₁ => ?_)
  refine mono_post (α := Unit) (q₁ A cn L a cd h₀ Z₁ m s₁ P S₁) fun iv σ₂ Z₂ v₂ s₂ hz₂ V₂ S₂ ⟨⟨T, id, hl, hT⟩, q₂⟩ => ?_
  exact tail_any (hT _ _ _ _ _ _ _ S₂ (V₁.mono hz₂)) hl (wpAny_mono (q₂ A cn cs L a cd h₀ Z₂ m ml s₂ [v₁, v₂] P S₂ (.cons (V₁.mono hz₂) (.cons V₂ .nil))) (fun _ _ q => (q.up hz₂).up hz) fun _ _ x => x) (subscripted_plain hs)

theorem ow_idx {ov : MV} {ms : List MV} {i : Int} {r : MV} (hl : ListAt c ov σ ms) (h0 : 0 ≤ i) (h1 : i < 2 ^ 63) (hr : ms[i.toNat]? = some r) (q : Q r σ) : OW c k getItemW [ov, .int i] σ Q := by
  intro A cn cs L a cd h₀ Z m ml s vs P S V
  obtain ⟨v₁, v₂, rfl, V₁, V₂⟩ := vrs2 V
  obtain ⟨b, ws, n, rfl, hg, W⟩ := hl _ _ _ _ _ _ _ S V₁
  cases V₂
  obtain ⟨x, hx, X⟩ := W.get hr
  exact wpAny_getItem_list ⟨_, hg, rfl, n, rfl⟩ h0 h1 (by simpa using hx) ⟨r, σ, Z, .refl, X, S, q⟩
theorem ow_idxneg {ov : MV} {ms : List MV} {r : MV} (hl : ListAt c ov σ ms) (hr : ms.getLast? = some r) (q : Q r σ) : OW c k getItemW [ov, .int (-1)] σ Q := by
  intro A cn cs L a cd h₀ Z m ml s vs P S V
  obtain ⟨v₁, v₂, rfl, V₁, V₂⟩ := vrs2 V
  obtain ⟨b, ws, n, rfl, hg, W⟩ := hl _ _ _ _ _ _ _ S V₁
  cases V₂
  rw [List.getLast?_eq_getElem?] at hr
  obtain ⟨x, hx, X⟩ := W.get hr
  have hlen := W.length
  have hpos : 0 < ws.length := by
    rcases Nat.eq_zero_or_pos ws.length with e | e
    · rw [List.length_eq_zero_iff.mp e] at hx; simp at hx
    · exact e
  refine wpAny_getItem_list_neg ⟨_, hg, rfl, n, rfl⟩ (by decide) (by simp; lia) (by decide) ?_ ⟨r, σ, Z, .refl, X, S, q⟩
  have : ((-1 : Int) + (ws.toArray.size : Nat)).toNat = ms.length - 1 := by simp; lia
  rw [this]
  simpa using hx
theorem ow_tup {ms : List MV} {i : Int} {r : MV} (h0 : 0 ≤ i) (h1 : i < 2 ^ 63) (hr : ms[i.toNat]? = some r) (q : Q r σ) : OW c k getItemW [.tup ms, .int i] σ Q := by
  intro A cn cs L a cd h₀ Z m ml s vs P S V
  obtain ⟨v₁, v₂, rfl, V₁, V₂⟩ := vrs2 V
  cases V₂
  cases V₁ with
  | @tup t _ ws n hz W =>
    obtain ⟨x, hx, X⟩ := W.get hr
    have hlt : i.toNat < ws.length := by
      rw [List.getElem?_eq_some_iff] at hx; exact hx.1
    refine PySem.P.getItem_tuple (n := n) (items := ws.toArray) (k := i.toNat) (y := x) (S.atZ hz).1 (by lia) h1 ?_ (by simpa using hx) ⟨r, σ, Z, .refl, X, S, q⟩
    unfold PySem.seqIndex?
    simp
    lia
end

noncomputable def isN : MV → Bool
  | .none => true
  | _ => false
noncomputable def binW (op : Operator) (vs : List Value) : Sem Value := binaryOp op (vs.getD 0 .none) (vs.getD 1 .none)
noncomputable def cmpW (op : CmpOp) (vs : List Value) : Sem Value := compareOp op (vs.getD 0 .none) (vs.getD 1 .none)

section
variable {c : Cx} {k : Nat} {cs : Scope} {ml : Loc} {σ : MH} {Q : MV → MH → Prop} {pos : Pos}

/-- a tree over two values that are no objects and that makes none: only the toks move -/
theorem ow_pure2 {t : List Value → Sem Value} {x y r : MV} (q : Q r σ)
    (h : ∀ (A : Around) (Z : Zm) (s : Shared) (v w : Value) (R : Value → Shared → Prop), VR Z x v → VR Z y w → (∀ u tk, VR Z r u → R u { s with toks := tk }) → wpAny c.M A (t [v, w]) R (fun _ _ => False) s) : OW c k t [x, y] σ Q := by
  intro A cn cs L a cd h₀ Z m ml s vs P S V
  obtain ⟨v, w, rfl, V₁, V₂⟩ := vrs2 V
  exact h A Z s v w _ V₁ V₂ fun u tk U => ⟨r, σ, Z, .refl, U, S.toks tk, q⟩
theorem ow_pure1 {t : List Value → Sem Value} {x r : MV} (q : Q r σ)
    (h : ∀ (A : Around) (Z : Zm) (s : Shared) (v : Value) (R : Value → Shared → Prop), VR Z x v → (∀ u tk, VR Z r u → R u { s with toks := tk }) → wpAny c.M A (t [v]) R (fun _ _ => False) s) : OW c k t [x] σ Q := by
  intro A cn cs L a cd h₀ Z m ml s vs P S V
  obtain ⟨v, rfl, V₁⟩ := vrs1 V
  exact h A Z s v _ V₁ fun u tk U => ⟨r, σ, Z, .refl, U, S.toks tk, q⟩

theorem ow_add {a b : Int} (q : Q (.int (a + b)) σ) : OW c k (fun vs => binaryOp .Add (vs.getD 0 .none) (vs.getD 1 .none)) [.int a, .int b] σ Q :=
  ow_pure2 q fun A Z s v w R V W h => by cases V; cases W; exact add_int (h _ _ (.int _ _))
theorem ow_sub {a b : Int} (q : Q (.int (a - b)) σ) : OW c k (fun vs => binaryOp .Sub (vs.getD 0 .none) (vs.getD 1 .none)) [.int a, .int b] σ Q :=
  ow_pure2 q fun A Z s v w R V W h => by cases V; cases W; exact PyProof.Rows.sub_int (h _ _ (.int _ _))
theorem ow_mul {a b : Int} (hs : IntMulOk a b) (q : Q (.int (a * b)) σ) : OW c k (fun vs => binaryOp .Mult (vs.getD 0 .none) (vs.getD 1 .none)) [.int a, .int b] σ Q :=
  ow_pure2 q fun A Z s v w R V W h => by cases V; cases W; exact PyProof.Rows.mul_int (h _ _ (.int _ _)) hs
theorem ow_mod {a b : Int} (hb : b ≠ 0) (q : Q (.int (a.fmod b)) σ) : OW c k (fun vs => binaryOp .Mod (vs.getD 0 .none) (vs.getD 1 .none)) [.int a, .int b] σ Q :=
  ow_pure2 q fun A Z s v w R V W h => by cases V; cases W; exact PyProof.Rows.mod_int hb (h _ _ (.int _ _))
theorem ow_div {a b : Int} (hb : b ≠ 0) (hp : Builtin.divisionGoesByPylong a b = false) (q : Q (.int (a.fdiv b)) σ) : OW c k (fun vs => binaryOp .FloorDiv (vs.getD 0 .none) (vs.getD 1 .none)) [.int a, .int b] σ Q :=
  ow_pure2 q fun A Z s v w R V W h => by cases V; cases W; exact PyProof.Rows.floordiv_int hb (h _ _ (.int _ _)) (.inl hp)
theorem ow_xor {a b : Int} (q : Q (.int (Builtin.bitXor a b)) σ) : OW c k (fun vs => binaryOp .BitXor (vs.getD 0 .none) (vs.getD 1 .none)) [.int a, .int b] σ Q :=
  ow_pure2 q fun A Z s v w R V W h => by cases V; cases W; exact PyProof.Rows.xor_int (h _ _ (.int _ _))
theorem ow_addstr {a b : Str} (hs : a.length + b.length ≤ sizeLine) (q : Q (.str (a ++ b)) σ) : OW c k (fun vs => binaryOp .Add (vs.getD 0 .none) (vs.getD 1 .none)) [.str a, .str b] σ Q :=
  ow_pure2 q fun A Z s v w R V W h => by cases V; cases W; exact PyProof.Rows.add_str (fun t tk => h _ _ (.str _ _)) hs
theorem ow_iadd {a b : Int} (q : Q (.int (a + b)) σ) : OW c k (inplaceW .Add) [.int a, .int b] σ Q :=
  ow_pure2 q fun A Z s v w R V W h => by cases V; cases W; exact PySem.AutoIntOps.iadd_0 (h _ _ (.int _ _))
theorem ow_isub {a b : Int} (q : Q (.int (a - b)) σ) : OW c k (inplaceW .Sub) [.int a, .int b] σ Q :=
  ow_pure2 q fun A Z s v w R V W h => by cases V; cases W; exact PySem.AutoIntOps.isub_0 (h _ _ (.int _ _))
theorem ow_idiv {a b : Int} (hb : b ≠ 0) (hp : Builtin.divisionGoesByPylong a b = false) (q : Q (.int (a.fdiv b)) σ) : OW c k (inplaceW .FloorDiv) [.int a, .int b] σ Q :=
  ow_pure2 q fun A Z s v w R V W h => by cases V; cases W; exact PySem.AutoIntOps.ifloordiv_1 (by simpa using hb) (by rw [hp]; decide) (h _ _ (.int _ _))

/-- comparisons of ints and strs -/
theorem ow_eqint {a b : Int} (q : Q (.bool (decide (a = b))) σ) : OW c k (fun vs => compareOp .Eq (vs.getD 0 .none) (vs.getD 1 .none)) [.int a, .int b] σ Q :=
  ow_pure2 q fun A Z s v w R V W h => by cases V; cases W; exact PyProof.Rows.eq_int (by rw [show (a == b) = decide (a = b) from rfl]; exact h _ _ (.bool _))
theorem ow_neint {a b : Int} (q : Q (.bool (decide (a ≠ b))) σ) : OW c k (fun vs => compareOp .NotEq (vs.getD 0 .none) (vs.getD 1 .none)) [.int a, .int b] σ Q :=
  ow_pure2 q fun A Z s v w R V W h => by cases V; cases W; exact PyProof.Rows.ne_int (by rw [show (a != b) = decide (a ≠ b) from by simp [bne, decide_not]; rfl]; exact h _ _ (.bool _))
theorem ow_ltint {a b : Int} (q : Q (.bool (decide (a < b))) σ) : OW c k (fun vs => compareOp .Lt (vs.getD 0 .none) (vs.getD 1 .none)) [.int a, .int b] σ Q :=
  ow_pure2 q fun A Z s v w R V W h => by cases V; cases W; exact PyProof.Rows.lt_int (h _ _ (.bool _))
theorem ow_leint {a b : Int} (q : Q (.bool (decide (a ≤ b))) σ) : OW c k (fun vs => compareOp .LtE (vs.getD 0 .none) (vs.getD 1 .none)) [.int a, .int b] σ Q :=
  ow_pure2 q fun A Z s v w R V W h => by cases V; cases W; exact PyProof.Rows.le_int (h _ _ (.bool _))
theorem ow_gtint {a b : Int} (q : Q (.bool (decide (b < a))) σ) : OW c k (fun vs => compareOp .Gt (vs.getD 0 .none) (vs.getD 1 .none)) [.int a, .int b] σ Q :=
  ow_pure2 q fun A Z s v w R V W h => by cases V; cases W; exact PyProof.Rows.gt_int (h _ _ (.bool _))
theorem ow_geint {a b : Int} (q : Q (.bool (decide (b ≤ a))) σ) : OW c k (fun vs => compareOp .GtE (vs.getD 0 .none) (vs.getD 1 .none)) [.int a, .int b] σ Q :=
  ow_pure2 q fun A Z s v w R V W h => by cases V; cases W; exact PyProof.Rows.ge_int (h _ _ (.bool _))
theorem ow_eqstr {a b : Str} (q : Q (.bool (decide (a = b))) σ) : OW c k (fun vs => compareOp .Eq (vs.getD 0 .none) (vs.getD 1 .none)) [.str a, .str b] σ Q :=
  ow_pure2 q fun A Z s v w R V W h => by cases V; cases W; exact PyProof.Rows.eq_str (by rw [show (a == b) = decide (a = b) from rfl]; exact h _ _ (.bool _))
theorem ow_nestr {a b : Str} (q : Q (.bool (decide (a ≠ b))) σ) : OW c k (fun vs => compareOp .NotEq (vs.getD 0 .none) (vs.getD 1 .none)) [.str a, .str b] σ Q :=
  ow_pure2 q fun A Z s v w R V W h => by cases V; cases W; exact PyProof.Rows.ne_str (by rw [show (a != b) = decide (a ≠ b) from by simp [bne, decide_not]; rfl]; exact h _ _ (.bool _))
theorem ow_lestr {a b : Str} (q : Q (.bool (!(b.cps.toList < a.cps.toList))) σ) : OW c k (fun vs => compareOp .LtE (vs.getD 0 .none) (vs.getD 1 .none)) [.str a, .str b] σ Q :=
  ow_pure2 q fun A Z s v w R V W h => by cases V; cases W; exact PySem.P.le_str (h _ s.toks (.bool _))
/-- is None -/
theorem ow_isnone {x : MV} (q : Q (.bool (isN x)) σ) : OW c k (fun vs => compareOp .Is (vs.getD 0 .none) (vs.getD 1 .none)) [x, .none] σ Q := by
  refine ow_pure2 q fun A Z s v w R V W h => ?_
  cases W
  have q' := h (.bool (isN x)) s.toks (.bool _)
  cases V <;> exact wpAny_is_plain rfl q'
theorem ow_notnone {x : MV} (q : Q (.bool (!isN x)) σ) : OW c k (fun vs => compareOp .IsNot (vs.getD 0 .none) (vs.getD 1 .none)) [x, .none] σ Q := by
  refine ow_pure2 q fun A Z s v w R V W h => ?_
  cases W
  have q' := h (.bool (!isN x)) s.toks (.bool _)
  cases V <;> exact wpAny_isNot_plain rfl q'
end

theorem str_beq (x y : Str) : (x.cps.toList == y.cps.toList) = decide (x = y) := by
  by_cases h : x = y
  · subst h; simp
  · rw [decide_eq_false h]
    refine beq_eq_false_iff_ne.mpr fun e => h ?_
    cases x; cases y
    exact congrArg Str.mk (Array.toList_inj.mp e)

noncomputable def strIs (y : Str) : Value → Bool
  | .str s _ => s.cps.toList == y.cps.toList
  | _ => false
theorem vrs_strs {Z : Zm} {ss : List Str} {vs : List Value} (h : VRs Z (ss.map .str) vs) (y : Str) (t : Tok) :
    (∀ v, v ∈ vs.toArray → MeetsSeq.EqGives v (.str y t) (strIs y v)) ∧ vs.toArray.any (strIs y) = decide (y ∈ ss) := by
  induction ss generalizing vs with
  | nil => cases h; exact ⟨by simp, by simp⟩
  | cons x ss ih =>
    cases h with
    | cons a b =>
      cases a
      obtain ⟨h1, h2⟩ := ih b
      refine ⟨fun v hv => ?_, ?_⟩
      · have hv := Array.mem_toArray.mp hv
        rcases List.mem_cons.mp hv with rfl | hv
        · exact SeqRoads2.EqGives.str x y _ t
        · exact h1 v (Array.mem_toArray.mpr hv)
      · rw [List.any_toArray, List.any_cons]
        rw [List.any_toArray] at h2
        rw [h2]
        show ((x.cps.toList == y.cps.toList) || _) = _
        rw [str_beq]
        by_cases hxy : x = y
        · subst hxy; simp
        · have : ¬ y = x := fun e => hxy e.symm
          simp [hxy, this]

section
variable {c : Cx} {k : Nat} {cs : Scope} {ml : Loc} {σ : MH} {Q : MV → MH → Prop} {pos : Pos}

theorem ow_intup {y : Str} {ss : List Str} (q : Q (.bool (decide (y ∈ ss))) σ) : OW c k (fun vs => compareOp .In (vs.getD 0 .none) (vs.getD 1 .none)) [.str y, .tup (ss.map .str)] σ Q := by
  intro A cn cs L a cd h₀ Z m ml s vs P S V
  obtain ⟨v₁, v₂, rfl, V₁, V₂⟩ := vrs2 V
  cases V₁ with
  | str _ t =>
  cases V₂ with
  | tup hz W =>
    obtain ⟨h1, h2⟩ := vrs_strs W y t
    refine SeqRoads2.in_tuple (strIs y) h1 (S.atZ hz).1 ?_
    rw [h2]
    exact ⟨_, σ, Z, .refl, .bool _, S, q⟩
theorem ow_inlist {y : Str} {ov : MV} {ss : List Str} (hl : ListAt c ov σ (ss.map .str)) (q : Q (.bool (decide (y ∈ ss))) σ) : OW c k (fun vs => compareOp .In (vs.getD 0 .none) (vs.getD 1 .none)) [.str y, ov] σ Q := by
  intro A cn cs L a cd h₀ Z m ml s vs P S V
  obtain ⟨v₁, v₂, rfl, V₁, V₂⟩ := vrs2 V
  cases V₁ with
  | str _ t =>
    obtain ⟨b, ws, n, rfl, hg, W⟩ := hl _ _ _ _ _ _ _ S V₂
    obtain ⟨h1, h2⟩ := vrs_strs W y t
    refine SeqRoads2.in_list (strIs y) h1 hg ?_
    rw [h2]
    exact ⟨_, σ, Z, .refl, .bool _, S, q⟩
theorem ow_instr1 {d : Nat} {x : Str} (q : Q (.bool (decide (d ∈ x.cps.toList))) σ) : OW c k (fun vs => compareOp .In (vs.getD 0 .none) (vs.getD 1 .none)) [.str ⟨#[d]⟩, .str x] σ Q :=
  ow_pure2 q fun A Z s v w R V W h => by
    cases V; cases W
    refine PyProof.Rows.in_str ?_
    rw [StrLaws.found_one]
    exact h _ s.toks (.bool _)

theorem cw_lenlist {ov : MV} {ms : List MV} (hl : ListAt c ov σ ms) (h1 : ms.length < 2 ^ 62) (q : Q (.int ms.length) σ) : CW c k (.builtin "len") [ov] σ Q := by
  intro A cn cs L a cd h₀ Z m ml s vs P S V
  obtain ⟨v₁, rfl, V₁⟩ := vrs1 V
  obtain ⟨b, ws, n, rfl, hg, W⟩ := hl _ _ _ _ _ _ _ S V₁
  have hlen := W.length
  refine PySem.Calls.call_len_list (items := ws.toArray) ⟨_, hg, rfl, n, rfl⟩ (by simp; lia) ?_
  have : ((ws.toArray.size : Nat) : Int) = (ms.length : Int) := by simp [hlen]
  rw [this]
  exact ⟨_, σ, Z, .refl, .int _ _, S.toks _, q⟩
theorem cw_lenstr {x : Str} (h1 : x.length < 2 ^ 62) (q : Q (.int x.length) σ) : CW c k (.builtin "len") [.str x] σ Q :=
  ow_pure1 q fun A Z s v R V h => by
    cases V
    exact PyProof.Rows.len_str (by lia) (h _ _ (.int _ _))
theorem cw_int {i : Int} (q : Q (.int i) σ) : CW c k (.type "int") [.int i] σ Q :=
  ow_pure1 q fun A Z s v R V h => by
    cases V
    exact call_int_int (h _ s.toks (.int _ _))
theorem cw_abs {i : Int} (q : Q (.int (i.natAbs)) σ) : CW c k (.builtin "abs") [.int i] σ Q :=
  ow_pure1 q fun A Z s v R V h => by
    cases V
    refine call_abs_int fun u tk => ?_
    have : (if i < 0 then -i else i) = (i.natAbs : Int) := by split <;> lia
    rw [this]
    exact h _ _ (.int _ _)
theorem cw_str {i : Int} (hi : i.natAbs.log2 < 1920) (q : Q (.str (Str.ofString (toString i))) σ) : CW c k (.type "str") [.int i] σ Q :=
  ow_pure1 q fun A Z s v R V h => by
    cases V
    exact PySem.P.str_of_int hi (h _ _ (.str _ _))
theorem cw_ord {d : Nat} (q : Q (.int d) σ) : CW c k (.builtin "ord") [.str ⟨#[d]⟩] σ Q :=
  ow_pure1 q fun A Z s v R V h => by
    cases V
    exact ord_of_one rfl (h _ _ (.int _ _))
theorem cw_max {a b : Int} (q : Q (.int (if b > a then b else a)) σ) : CW c k (.builtin "max") [.int a, .int b] σ Q := by
  intro A cn cs L a' cd h₀ Z m ml s vs P S V
  obtain ⟨v₁, v₂, rfl, V₁, V₂⟩ := vrs2 V
  cases V₁; cases V₂
  obtain ⟨news, N, C⟩ := S.led
  exact max_two_N P.hand S.F N fun h' tk F' N' => ⟨_, σ, Z, .refl, .int _ _, ⟨F', S.loc, ⟨news, N', C⟩, S.gens, S.drawn, S.os⟩, q⟩

/-- list methods -/
theorem mi_append {D : Addr} {ms : List MV} (h : σ D = some (.list ms)) : MethIs c k (.ref D) σ "append" (.builtin "list.append") := by
  intro A cn cs L a cd h₀ Z m ml s v pl R P S V q
  cases V
  obtain ⟨ob, ho, hg, _⟩ := S.at h
  cases ho with | list hv => exact Calls.getMethod_list_append hg rfl rfl (q s S)
theorem mi_pop {D : Addr} {ms : List MV} (h : σ D = some (.list ms)) : MethIs c k (.ref D) σ "pop" (.builtin "list.pop") := by
  intro A cn cs L a cd h₀ Z m ml s v pl R P S V q
  cases V
  obtain ⟨ob, ho, hg, _⟩ := S.at h
  cases ho with | list hv => exact Copied.getMethod_pop_at hg rfl rfl (q s S)
theorem cw_append {D : Addr} {ms : List MV} {x : MV} (h : σ D = some (.list ms)) (hs : ms.length ≤ 10000) (q : Q .none (updH σ D (.list (ms ++ [x])))) : CW c k (.builtin "list.append") [.ref D, x] σ Q := by
  intro A cn cs L a cd h₀ Z m ml s vs P S V
  obtain ⟨v₁, v₂, rfl, V₁, V₂⟩ := vrs2 V
  cases V₁
  obtain ⟨ob, rest, ho, N, hr, ⟨hz, hk⟩, up⟩ := S.open h
  cases ho with
  | @list _ ws n W =>
    have hlen := W.length
    refine append_K S.F N (.head hr) (fun h' F' N' => ?_) (by rw [sizeLine_eq]; simp; lia)
    refine ⟨.none, _, Z, .refl, .none, up h' s.toks (.list (ms ++ [x])) _ F' N' ?_ trivial, q⟩
    have := OR.list (c := c) (n := n + 1) (W.append (.cons V₂ .nil))
    simpa using this
theorem VRs.dropLast {Z : Zm} {ms : List MV} {vs : List Value} (h : VRs Z ms vs) : VRs Z ms.dropLast vs.dropLast := by
  induction ms generalizing vs with
  | nil => cases h; exact .nil
  | cons m ms ih =>
    cases h with
    | cons a b =>
      cases b with
      | nil => exact .nil
      | cons a' b' => exact .cons a (ih (.cons a' b'))
theorem cw_pop {D : Addr} {ms : List MV} {x : MV} (h : σ D = some (.list (ms ++ [x]))) (hs : ms.length ≤ 10000) (q : Q x (updH σ D (.list ms))) : CW c k (.builtin "list.pop") [.ref D] σ Q := by
  intro A cn cs L a cd h₀ Z m ml s vs P S V
  obtain ⟨v₁, rfl, V₁⟩ := vrs1 V
  cases V₁
  obtain ⟨ob, rest, ho, N, hr, ⟨hz, hk⟩, up⟩ := S.open h
  cases ho with
  | @list _ ws n W =>
    have hlen : ws.length = ms.length + 1 := by rw [W.length]; simp
    obtain ⟨y, hy, Y⟩ := W.get (i := ms.length) (r := x) (by simp)
    have hL := N _ (.head _)
    refine Copied.pop_at (its := ws.toArray) (n := n) (y := y) hL.1 (by rw [show ws.toArray.size - 1 = ms.length from by simp [hlen]]; simpa using hy) (fun h' hs' hg' => ?_) (by rw [sizeLine_eq]; simp; lia)
    have F' := S.F.change hs' hL.2.1 hL.2.2
    have N' : News h₀ L h' ((D, listOf ws.dropLast.toArray (n + 1)) :: rest) := news_set (pre := []) N (fun _ h => nomatch h) hr hs' (by rw [hg']; simp)
    refine ⟨x, _, Z, .refl, Y, up h' s.toks (.list ms) _ F' N' ?_ trivial, q⟩
    have := OR.list (c := c) (n := n + 1) W.dropLast
    simpa using this
end

section
variable {c : Cx} {h₀ : Heap} {L : Addr} {Z : Zm} {m : Str → Option Value} {ml : Loc} {σ : MH} {s : Shared}
theorem SR.change (S : SR c h₀ L Z m ml σ s) {a : Addr} {o o' : MO} {ob' : Obj} {h' : Heap} (t : Nat) (ha : σ a = some o) (hs : Heap.SameBut a s.heap h') (hg : h'.get? a = some ob') (O : OR c Z o' ob') (hk : okAddr a o → okAddr a o') :
    SR c h₀ L Z m ml (updH σ a o') { s with heap := h', toks := t } := by
  obtain ⟨ob, rest, ho, N, hr, ⟨hz, hk'⟩, up⟩ := S.open ha
  exact up h' t o' ob' (S.F.change hs (N _ (.head _)).2.1 (N _ (.head _)).2.2) (news_set (pre := []) N (fun _ h => nomatch h) hr hs hg) O (hk hk')
theorem SR.drop (S : SR c h₀ L Z m ml σ s) {a : Addr} {o : MO} {h' : Heap} (t : Nat) (ha : σ a = some o) (hs : Heap.ExtBut a s.heap h') : SR c h₀ L Z m ml (delH σ a) { s with heap := h', toks := t } := by
  obtain ⟨news, N, C⟩ := S.led
  obtain ⟨hz, hk, ob, hm, ho⟩ := C.1 a o ha
  obtain ⟨oL, es, ep, hL, r⟩ := S.F.ns
  have hne : ∀ b x, h₀.get? b = some x → b ≠ a := fun b x e q => by subst q; rw [(N _ hm).2.2] at e; cases e
  refine ⟨⟨⟨oL, es, ep, hs L oL (Ne.symm (N _ hm).2.1) hL, r⟩, fun b x e => hs b x (hne b x e) (S.F.keep b x e), S.F.above⟩, S.loc, ⟨news.filter (fun p => p.1 ≠ a), fun p hp => ?_, fun b x e => ?_, fun b x e => ?_⟩, S.gens, S.drawn, S.os⟩
  · obtain ⟨h1, h2⟩ := List.mem_filter.mp hp
    exact ⟨hs _ _ (by simpa using h2) (N p h1).1, (N p h1).2⟩
  · have hb : b ≠ a := fun q => by subst q; simp [delH] at e
    rw [delH_ne hb] at e
    obtain ⟨z, zk, xb, xm, xo⟩ := C.1 b x e
    exact ⟨z, zk, xb, List.mem_filter.mpr ⟨xm, by simpa using hb⟩, xo⟩
  · have hb : b ≠ a := fun q => by subst q; rw [hz] at e; cases e
    exact List.mem_filter.mpr ⟨C.2 b x e, by simpa using hb⟩
theorem SR.grown (S : SR c h₀ L Z m ml σ s) (t : Nat) (o : Obj) : SR c h₀ L Z m ml σ { s with heap := s.heap.push o, toks := t } := by
  obtain ⟨news, N, C⟩ := S.led
  exact ⟨S.F.push o, S.loc, ⟨news, fun p hp => ⟨Heap.get?_push_of_some _ (N p hp).1, (N p hp).2⟩, C⟩, S.gens, S.drawn, S.os⟩
/-- a new object at the heap's end -/
theorem SR.born (S : SR c h₀ L Z m ml σ s) (t : Nat) {ob : Obj} {o : MO} (hf : ob.isFreed = false) (O : OR c Z o ob) (hk : okAddr s.heap.objs.size o) :
    σ s.heap.objs.size = none ∧ SR c h₀ L Z m ml (updH σ s.heap.objs.size o) { s with heap := s.heap.push ob, toks := t } := by
  obtain ⟨news, N, C⟩ := S.led
  exact S.push C t (S.F.push ob) (N.push S.F ob hf) (fun p hp => Heap.lt_size (N p hp).1) O hk
theorem SR.big (S : SR c h₀ L Z m ml σ s) {p : Program} {loose : List Str} {mean : ExcName → Option Value} {mg mb : Str → Option Value} (T : Top p loose mean mg mb h₀) : (s.heap.objs.size == sysModules) = false := by
  obtain ⟨oL, _, _, hL, _⟩ := S.F.ns
  have h1 : L < s.heap.objs.size := Heap.lt_size hL
  have h2 := S.F.above
  obtain ⟨og, _, _, hg, _⟩ := T.g
  have h3 : (3 : Nat) < h₀.objs.size := Heap.lt_size hg
  have h6 : (3 : Nat) < s.heap.objs.size := Nat.lt_trans (Nat.lt_of_lt_of_le h3 h2) h1
  refine beq_eq_false_iff_ne.mpr fun e => ?_
  have h7 : s.heap.objs.size = 1 := e
  lia
end

section
variable {c : Cx} {k : Nat} {cs : Scope} {ml : Loc} {σ : MH} {Q : MV → MH → Prop} {pos : Pos} {R : MH → Prop}

theorem VRs.set {Z : Zm} {ms : List MV} {vs : List Value} (h : VRs Z ms vs) {i : Nat} {r : MV} {v : Value} (V : VR Z r v) : VRs Z (ms.set i r) (vs.set i v) := by
  induction ms generalizing vs i with
  | nil => cases h; exact .nil
  | cons m ms ih =>
    cases h with
    | cons a b =>
      cases i with
      | zero => exact .cons V b
      | succ i => exact .cons a (ih b)

/-- a store into a list -/
theorem uw_setlist {D : Addr} {ms : List MV} {i : Int} {v : MV} (h : σ D = some (.list ms)) (h0 : 0 ≤ i) (h1 : i < ms.length) (h2 : i < 2 ^ 63) (q : R (updH σ D (.list (ms.set i.toNat v)))) : UW c k setItemW [.ref D, .int i, v] σ R := by
  intro A cn cs L a cd h₀ Z m ml s vs P S V
  obtain ⟨v₁, v₂, v₃, rfl, V₁, V₂, V₃⟩ := vrs3 V
  cases V₁; cases V₂
  obtain ⟨ob, ho, hg, _⟩ := S.at h
  cases ho with
  | @list _ ws n W =>
    have hlen := W.length
    have hl : s.heap.IsList D ws.toArray := ⟨_, hg, rfl, n, rfl⟩
    show wpAny c.M A (setItem (.ref D) (.int i _) v₃) _ _ s
    unfold setItem
    try with_reducible refine wpAny_holding ?_
    first | refine wpAny_bind (wpAny_pure ?_) | skip
    refine wpAny_bind (wpAny_sequenceKey hl.typeIs (by decide) ?_)
    refine wpAny_bind (wpAny_callSpecial?_slot (name := Str.ofString "__setitem__") hl.typeIs PySem.slot_list_setitem
      (wpAny_call_entry PySem.slot_list_setitem hl.typeIs PySem.entry_list_setitem ?_ (PySem.args_list_setitem _ _ _)))
    show wpAny _ _ (Builtin.List.listSubscript? (.int i _) >>= _) _ _ s
    refine wpAny_bind (wpAny_listSubscript_int (fitsIndex_of h0 h2) ?_)
    clear h2
    obtain ⟨j, rfl⟩ := Int.eq_ofNat_of_zero_le h0
    have hj : j < ws.toArray.size := by simp; lia
    have hx' : ws.toArray[j]? = some ws.toArray[j] := Array.getElem?_eq_getElem hj
    show wpAny _ _ ((seqItemAt D j >>= fun r => pure (r.map (j, ·))) >>= _) _ _ s
    refine wpAny_bind (wpAny_bind (wpAny_seqItemAt hg rfl (wpAny_pure ?_)))
    rw [hx']
    show wpAny _ _ (setSeqItemAt D j v₃ >>= _) _ _ s
    have hfin : (s.heap.update D (Obj.mapSeq (·.setIfInBounds j v₃))).get? D = some (PySem.W.listOf (ws.set j v₃).toArray n) := by
      rw [Heap.get?_update_self _ hg (by simp [Obj.mapSeq]; rfl)]
      simp [Obj.mapSeq]
    have fin := S.change (o' := .list (ms.set j v)) s.toks h (Heap.SameBut.update ..) hfin (.list (W.set V₃)) (fun _ => trivial)
    refine wpAny_bind (wpAny_setSeqItemAt hg rfl ?_)
    first
      | exact wpAny_bind (wpAny_pure (wpAny_pure ⟨.none, rfl, wpAny_pure ⟨_, fin, q⟩⟩))
      | exact wpAny_pure ⟨.none, rfl, wpAny_pure ⟨_, fin, q⟩⟩
end

noncomputable def getI (x : Int) : List (Int × MV) → Option MV
  | [] => none
  | (y, v) :: r => if x = y then some v else getI x r
noncomputable def putI (x : Int) (v : MV) : List (Int × MV) → List (Int × MV)
  | [] => [(x, v)]
  | (y, w) :: r => if x = y then (y, v) :: r else (y, w) :: putI x v r

theorem VRk.length {Z : Zm} {κ : Type} {fs : List (κ × MV)} {kvs : List (κ × Value)} (h : VRk Z fs kvs) : kvs.length = fs.length := by
  induction h with
  | nil => rfl
  | cons _ _ ih => simp [ih]
theorem vrk_getF {Z : Zm} {fs : List (Str × MV)} {kvs : List (Str × Value)} (h : VRk Z fs kvs) (x : Str) : (∀ r, getF x fs = some r → ∃ v, valueAt kvs x = some v ∧ VR Z r v) ∧ (getF x fs = none → valueAt kvs x = none) := by
  induction h with
  | nil => exact ⟨by simp [getF], fun _ => rfl⟩
  | @cons y m v fs es V _ ih =>
    unfold getF valueAt
    by_cases hx : x = y
    · subst hx
      simp only [if_pos, List.find?_cons, decide_true, Option.map_some]
      exact ⟨fun r e => by cases e; exact ⟨v, rfl, V⟩, fun e => by cases e⟩
    · have : decide (y = x) = false := by simp; exact fun e => hx e.symm
      simp only [if_neg hx, List.find?_cons, this]
      exact ih
theorem vrk_getI {Z : Zm} {fs : List (Int × MV)} {kvs : List (Int × Value)} (h : VRk Z fs kvs) (x : Int) : (∀ r, getI x fs = some r → ∃ v, valueAt kvs x = some v ∧ VR Z r v) ∧ (getI x fs = none → valueAt kvs x = none) := by
  induction h with
  | nil => exact ⟨by simp [getI], fun _ => rfl⟩
  | @cons y m v fs es V _ ih =>
    unfold getI valueAt
    by_cases hx : x = y
    · subst hx
      simp only [if_pos, List.find?_cons, decide_true, Option.map_some]
      exact ⟨fun r e => by cases e; exact ⟨v, rfl, V⟩, fun e => by cases e⟩
    · have : decide (y = x) = false := by simp; exact fun e => hx e.symm
      simp only [if_neg hx, List.find?_cons, this]
      exact ih
theorem map_same {κ : Type} [DecidableEq κ] (x : κ) (v : Value) : ∀ l : List (κ × Value), (∀ p ∈ l, p.1 ≠ x) → l.map (fun kv => if kv.1 = x then (kv.1, v) else kv) = l
  | [], _ => rfl
  | p :: l, h => by
    rw [List.map_cons, if_neg (h p (.head _)), map_same x v l fun q hq => h q (.tail _ hq)]
theorem vrk_putF {Z : Zm} {fs : List (Str × MV)} {kvs : List (Str × Value)} (h : VRk Z fs kvs) {x : Str} {m : MV} {v : Value} (V : VR Z m v) (hn : (kvs.map (·.1)).Nodup) : VRk Z (putF x m fs) (stored kvs x v) := by
  induction h with
  | nil => exact .cons V .nil
  | @cons y m' v' fs es V' r ih =>
    obtain ⟨h1, h2⟩ := List.nodup_cons.mp hn
    have ih := ih h2
    unfold putF
    by_cases hx : x = y
    · subst hx
      have e1 : stored ((x, v') :: es) x v = (x, v) :: es := by
        unfold stored
        simp only [List.any_cons, decide_true, Bool.true_or, if_true, List.map_cons]
        rw [map_same x v es fun p hp e => h1 (List.mem_map.mpr ⟨p, hp, e⟩)]
      rw [e1, if_pos rfl]
      exact .cons V r
    · have hyx : ¬ y = x := fun e => hx e.symm
      have e1 : stored ((y, v') :: es) x v = (y, v') :: stored es x v := by
        unfold stored
        simp only [List.any_cons, decide_eq_false hyx, Bool.false_or, List.map_cons, if_neg hyx]
        split <;> rfl
      rw [e1, if_neg hx]
      exact .cons V' ih
theorem vrk_putI {Z : Zm} {fs : List (Int × MV)} {kvs : List (Int × Value)} (h : VRk Z fs kvs) {x : Int} {m : MV} {v : Value} (V : VR Z m v) (hn : (kvs.map (·.1)).Nodup) : VRk Z (putI x m fs) (stored kvs x v) := by
  induction h with
  | nil => exact .cons V .nil
  | @cons y m' v' fs es V' r ih =>
    obtain ⟨h1, h2⟩ := List.nodup_cons.mp hn
    have ih := ih h2
    unfold putI
    by_cases hx : x = y
    · subst hx
      have e1 : stored ((x, v') :: es) x v = (x, v) :: es := by
        unfold stored
        simp only [List.any_cons, decide_true, Bool.true_or, if_true, List.map_cons]
        rw [map_same x v es fun p hp e => h1 (List.mem_map.mpr ⟨p, hp, e⟩)]
      rw [e1, if_pos rfl]
      exact .cons V r
    · have hyx : ¬ y = x := fun e => hx e.symm
      have e1 : stored ((y, v') :: es) x v = (y, v') :: stored es x v := by
        unfold stored
        simp only [List.any_cons, decide_eq_false hyx, Bool.false_or, List.map_cons, if_neg hyx]
        split <;> rfl
      rw [e1, if_neg hx]
      exact .cons V' ih

section
variable {c : Cx} {k : Nat} {cs : Scope} {ml : Loc} {σ : MH} {Q : MV → MH → Prop} {pos : Pos} {R : MH → Prop}

theorem ow_getsd {d : Addr} {fs : List (Str × MV)} {x : Str} {r : MV} (h : σ d = some (.sd fs)) (e : getF x fs = some r) (q : Q r σ) : OW c k getItemW [.ref d, .str x] σ Q := by
  intro A cn cs L a cd h₀ Z m ml s vs P S V
  obtain ⟨v₁, v₂, rfl, V₁, V₂⟩ := vrs2 V
  cases V₁
  cases V₂ with
  | str _ t =>
  obtain ⟨ob, ho, hg, _⟩ := S.at h
  cases ho with
  | sd hd hv =>
    obtain ⟨v, e1, V⟩ := (vrk_getF hv x).1 r e
    exact wpAny_getItem_of (strKind_is c.prog c.w x t) (Heap.dictOf_iff.mpr ⟨_, hg, hd⟩).mapOf e1 ⟨r, σ, Z, .refl, V, S.toks _, q⟩
theorem ow_insd {d : Addr} {fs : List (Str × MV)} {x : Str} (h : σ d = some (.sd fs)) (q : Q (.bool (getF x fs).isSome) σ) : OW c k (fun vs => compareOp .In (vs.getD 0 .none) (vs.getD 1 .none)) [.str x, .ref d] σ Q := by
  intro A cn cs L a cd h₀ Z m ml s vs P S V
  obtain ⟨v₁, v₂, rfl, V₁, V₂⟩ := vrs2 V
  cases V₂
  cases V₁ with
  | str _ t =>
  obtain ⟨news, N, C⟩ := S.led
  obtain ⟨_, hk, ob, hm, ho⟩ := C.1 _ _ h
  cases ho with
  | @sd _ kvs _ hd hv =>
    refine wpAny_in_of (strKind_is c.prog c.w x t) hk (Heap.dictOf_iff.mpr ⟨_, (N _ hm).1, hd⟩).mapOf ?_
    have : (valueAt kvs x).isSome = (getF x fs).isSome := by
      cases e : getF x fs with
      | none => rw [(vrk_getF hv x).2 e]; rfl
      | some r => obtain ⟨v, e1, _⟩ := (vrk_getF hv x).1 r e; rw [e1]; rfl
    rw [this]
    exact ⟨_, σ, Z, .refl, .bool _, S.toks _, q⟩
theorem ow_notinid {d : Addr} {fs : List (Int × MV)} {x : Int} (h : σ d = some (.idt fs)) (q : Q (.bool (!(getI x fs).isSome)) σ) : OW c k (fun vs => compareOp .NotIn (vs.getD 0 .none) (vs.getD 1 .none)) [.int x, .ref d] σ Q := by
  intro A cn cs L a cd h₀ Z m ml s vs P S V
  obtain ⟨v₁, v₂, rfl, V₁, V₂⟩ := vrs2 V
  cases V₂
  cases V₁ with
  | int _ t =>
  obtain ⟨news, N, C⟩ := S.led
  obtain ⟨_, hk, ob, hm, ho⟩ := C.1 _ _ h
  cases ho with
  | @idt _ kvs _ hd hv =>
    refine wpAny_notIn_of (intKind_is c.prog c.w x t) hk (Heap.dictOf_iff.mpr ⟨_, (N _ hm).1, hd⟩).mapOf ?_
    have : (valueAt kvs x).isSome = (getI x fs).isSome := by
      cases e : getI x fs with
      | none => rw [(vrk_getI hv x).2 e]; rfl
      | some r => obtain ⟨v, e1, _⟩ := (vrk_getI hv x).1 r e; rw [e1]; rfl
    rw [this]
    exact ⟨_, σ, Z, .refl, .bool _, S.toks _, q⟩
theorem uw_setsd {d : Addr} {fs : List (Str × MV)} {x : Str} {v : MV} (h : σ d = some (.sd fs)) (hl : fs.length ≤ 10000) (q : R (updH σ d (.sd (putF x v fs)))) : UW c k setItemW [.ref d, .str x, v] σ R := by
  intro A cn cs L a cd h₀ Z m ml s vs P S V
  obtain ⟨v₁, v₂, v₃, rfl, V₁, V₂, V₃⟩ := vrs3 V
  cases V₁
  cases V₂ with
  | str _ t =>
  obtain ⟨ob, ho, hg, _⟩ := S.at h
  cases ho with
  | sd hd hv =>
    have hm : s.heap.DictOf (strKind c.prog c.w) d _ := Heap.dictOf_iff.mpr ⟨_, hg, hd⟩
    refine wpAny_setItem_pairs (strKind_is c.prog c.w x t) hm (fun h' hm' hs' => ?_) (by rw [hv.length, sizeLine_eq]; lia)
    obtain ⟨o', hg', hd'⟩ := Heap.dictOf_iff.mp hm'
    obtain ⟨_, _, _, _, _, _, _, _, hn⟩ := hm
    exact ⟨_, S.change _ h hs' hg' (.sd hd' (vrk_putF hv V₃ hn)) (fun z => z), q⟩
theorem uw_setid {d : Addr} {fs : List (Int × MV)} {x : Int} {v : MV} (h : σ d = some (.idt fs)) (hl : fs.length ≤ 10000) (q : R (updH σ d (.idt (putI x v fs)))) : UW c k setItemW [.ref d, .int x, v] σ R := by
  intro A cn cs L a cd h₀ Z m ml s vs P S V
  obtain ⟨v₁, v₂, v₃, rfl, V₁, V₂, V₃⟩ := vrs3 V
  cases V₁
  cases V₂ with
  | int _ t =>
  obtain ⟨ob, ho, hg, _⟩ := S.at h
  cases ho with
  | idt hd hv =>
    have hm : s.heap.DictOf (intKind c.prog c.w) d _ := Heap.dictOf_iff.mpr ⟨_, hg, hd⟩
    refine wpAny_setItem_pairs (intKind_is c.prog c.w x t) hm (fun h' hm' hs' => ?_) (by rw [hv.length, sizeLine_eq]; lia)
    obtain ⟨o', hg', hd'⟩ := Heap.dictOf_iff.mp hm'
    obtain ⟨_, _, _, _, _, _, _, _, hn⟩ := hm
    exact ⟨_, S.change _ h hs' hg' (.idt hd' (vrk_putI hv V₃ hn)) (fun z => z), q⟩


/-- what is written between a and b -/
noncomputable def cut (x : Str) (a b : Nat) : Str := ⟨((x.cps.toList.drop a).take (b - a)).toArray⟩
theorem cut_min {α : Type} (l : List α) (a b : Nat) : (l.drop (min a l.length)).take (min b l.length - min a l.length) = (l.drop a).take (b - a) := by
  rw [← List.drop_take, ← List.drop_take, ← List.take_eq_take_min]
  by_cases h : a ≤ l.length
  · rw [Nat.min_eq_left h]
  · have h := Nat.le_of_not_le h
    rw [Nat.min_eq_right h, List.drop_of_length_le, List.drop_of_length_le]
    · exact Nat.le_trans (List.length_take_le' ..) h
    · exact List.length_take_le' ..
theorem clip_nat (i n : Nat) : ((if (i : Int) < 0 then (i : Int) + n else i) : Int) = i := if_neg (Int.not_lt.mpr (Int.natCast_nonneg i))
theorem slice_cut {x : Str} {a b : Nat} (hab : a ≤ b) : Txt.slice x (some (a : Int)) (some (b : Int)) = cut x a b := by
  have n : ∀ i : Nat, min ((min i x.length : Nat) : Int) (x.length : Int) = min (i : Int) (x.length : Int) := fun i => by lia
  have e : Builtin.Str.strSliceIndices (some (a : Int)) (some (b : Int)) 1 x.length = Builtin.Str.strSliceIndices (some ((min a x.length : Nat) : Int)) (some ((min b x.length : Nat) : Int)) 1 x.length := by
    simp only [Builtin.Str.strSliceIndices, clip_nat, show ((1 : Int) > 0) = True from by simp, if_true, n]
  have t : Txt.slice x (some (a : Int)) (some (b : Int)) = StrLaws.sliceText x (some ((min a x.length : Nat) : Int)) (some ((min b x.length : Nat) : Int)) := by
    show StrLaws.sliceText x (some (a : Int)) (some (b : Int)) = _
    unfold StrLaws.sliceText
    rw [e]
  rw [t, StrLaws.sliceText_nat x (by lia) (Nat.min_le_right ..)]
  exact congrArg (fun l => (⟨l.toArray⟩ : Str)) (cut_min x.cps.toList a b)
theorem cut_len (x : Str) (a b : Nat) : (cut x a b).length ≤ x.length := by
  unfold cut Str.length
  simp
  lia

theorem letGo_str {e : Expr} {x : Str} {t : Tok} {r : Value} : letTemporaryGo e (.str x t) r = pure () := by cases e <;> rfl
theorem ew_slice {v l u : Expr} {p : Pos} (h : EW c k cs v ml σ fun ov σ₁ => EW c k cs l ml σ₁ fun lv σ₂ => EW c k cs u ml σ₂ fun uv σ₃ =>
      ∃ (x : Str) (a b : Nat), ov = .str x ∧ lv = .int a ∧ uv = .int b ∧ a ≤ b ∧ x.length ≤ sizeLine ∧ Q (.str (cut x a b)) σ₃) : EW c k cs (.Subscript v (.Slice (some l) (some u) none p) pos) ml σ Q := by
  intro A cn L a cd h₀ Z m s P S
  refine Subscript_ (mono_post (α := Unit) (h A cn L a cd h₀ Z m s P S) fun ov σ₁ Z₁ v₁ s₁ hz V₁ S₁ q₁ => ?_)
  show wpAny c.M A (do
    let l' ← eval l (envOf cn cs L a cd)
    let u' ← holding [l'] (eval u (envOf cn cs L a cd))
    let st ← holding [l', u'] (pure .none)
    newFields "slice" [l', u', st]) _ _ s₁
  refine bind_post (q₁ A cn L a cd h₀ Z₁ m s₁ P S₁) fun lv σ₂ Z₂ v₂ s₂ hz₂ V₂ S₂ q₂ => ?_
  refine wpAny_bind (wpAny_holding (mono_post (α := Unit) (q₂ A cn L a cd h₀ Z₂ m s₂ P S₂) fun uv σ₃ Z₃ v₃ s₃ hz₃ V₃ S₃ ⟨x, i, j, e1, e2, e3, hij, hx, q⟩ => ?_))
  subst e1; subst e2; subst e3
  cases V₁; cases V₂; cases V₃
  refine wpAny_bind (wpAny_holding (wpAny_pure ?_))
  obtain ⟨news, N, C⟩ := S₃.led
  refine wpAny_newObj_type ?_ (Nat.le_of_ble_eq_true rfl)
  refine slice_strN_ss S₃.F N (fun h' t' kk F' N' => ?_) rfl (fun _ => letGo_str) hx
  rw [slice_cut hij]
  exact ⟨_, σ₃, Z₃, (hz.trans hz₂).trans hz₃, .str _ _, ⟨F', S₃.loc, ⟨news, N', C⟩, S₃.gens, S₃.drawn, S₃.os⟩, q⟩
end

noncomputable def putAll (acc : List (Str × MV)) (l : List (Str × MV)) : List (Str × MV) := l.foldl (fun a p => putF p.1 p.2 a) acc
inductive VRp (Z : Zm) : List (Str × MV) → List (Value × Value) → Prop
  | nil : VRp Z [] []
  | cons {x : Str} {t : Tok} {m : MV} {v : Value} {l : List (Str × MV)} {vs : List (Value × Value)} : VR Z m v → VRp Z l vs → VRp Z ((x, m) :: l) ((.str x t, v) :: vs)
theorem VRp.mono {Z Z' : Zm} (hz : Zsub Z Z') {l : List (Str × MV)} {vs : List (Value × Value)} (h : VRp Z l vs) : VRp Z' l vs := by
  induction h with
  | nil => exact .nil
  | cons a _ ih => exact .cons (a.mono hz) ih
noncomputable def pairsOf (env : Env) (pos : Pos) : List (Option Expr) → List Expr → List (Sem Value × Sem Value)
  | some ke :: ks, e :: es => (eval ke env, do let x ← eval e env; standAt pos; pure x) :: pairsOf env pos ks es
  | _, _ => []

set_option tactic.hygienic true in
theorem nodup_stored {κ : Type} [DecidableEq κ] : ∀ (l : List (κ × Value)) (x : κ) (v : Value), (l.map (·.1)).Nodup → ((stored l x v).map (·.1)).Nodup
  | [], x, v, _ => by simp [stored]
  | (y, w) :: l, x, v, h => by
    obtain ⟨h1, h2⟩ := List.nodup_cons.mp h
    have ih := nodup_stored l x v h2
    unfold stored at ih ⊢
    by_cases hyx : y = x
    · subst hyx
      simp only [List.any_cons, decide_true, Bool.true_or, if_true, List.map_cons]
      rw [map_same y v l fun p hp e => h1 (List.mem_map.mpr ⟨p, hp, e⟩)]
      exact h
    · simp only [List.any_cons, decide_eq_false hyx, Bool.false_or, List.map_cons, if_neg hyx]
      split at ih
      · rename_i hq
        rw [if_pos hq]
        simp only [List.map_cons, List.nodup_cons] at ih ⊢
        refine ⟨fun hm => h1 ?_, ih⟩
        obtain ⟨p, hp, e⟩ := List.mem_map.mp hm
        obtain ⟨q, hq', rfl⟩ := List.mem_map.mp hp
        refine List.mem_map.mpr ⟨q, hq', ?_⟩
        by_cases hqx : q.1 = x
        · rw [if_pos hqx] at e; exact e
        · rw [if_neg hqx] at e; exact e
      · rename_i hq
        rw [if_neg hq]
        simp only [List.cons_append, List.map_cons, List.nodup_cons] at ih ⊢
        refine ⟨fun hm => ?_, ih⟩
        rw [List.map_append, List.mem_append] at hm
        rcases hm with hm | hm
        · exact h1 hm
        · simp at hm; exact hyx hm
theorem vrp_merged {Z : Zm} : ∀ {l : List (Str × MV)} {vs : List (Value × Value)} (kvs : List (Str × Value)) {acc : List (Str × MV)} {acc' : List (Str × Value)}, VRp Z l vs → kvs = vs.map (fun p => (match p.1 with | .str x _ => x | _ => Str.empty, p.2)) → VRk Z acc acc' → (acc'.map (·.1)).Nodup → VRk Z (putAll acc l) (merged acc' kvs)
  | _, _, _, _, _, .nil, rfl, h, _ => by simpa [putAll, merged] using h
  | _, _, _, _, _, .cons (x := x) (m := m) (v := v) (l := l) (vs := vs) V r, rfl, h, hn => by
    have := vrp_merged _ r rfl (vrk_putF (x := x) h V hn) (nodup_stored _ _ _ hn)
    simpa [putAll, merged] using this
theorem vrp_carries {Z : Zm} {prog : Program} {w : World} : ∀ {l : List (Str × MV)} {vs : List (Value × Value)}, VRp Z l vs → Carries (PySem.strKind prog w) vs (vs.map (fun p => (match p.1 with | .str x _ => x | _ => Str.empty, p.2)))
  | _, _, .nil => trivial
  | _, _, .cons V r => ⟨strKind_is _ _ _ _, rfl, vrp_carries r⟩
theorem VRp.length {Z : Zm} {l : List (Str × MV)} {vs : List (Value × Value)} (h : VRp Z l vs) : vs.length = l.length := by
  induction h with
  | nil => rfl
  | cons _ _ ih => simp [ih]

section
variable {c : Cx} {k : Nat} {cs : Scope} {ml : Loc} {σ : MH} {Q : MV → MH → Prop} {pos : Pos}

noncomputable def DW (c : Cx) (k : Nat) (cs : Scope) (ks : List (Option Expr)) (es : List Expr) (ml : Loc) (σ : MH) (Q : List (Str × MV) → MH → Prop) : Prop :=
  ∀ (A : Around) (cn : Str) (L a : Addr) (cd : Value) (h₀ : Heap) (Z : Zm) (m : Str → Option Value) (s : Shared) (pos : Pos),
    Pt c k A (envOf cn cs L a cd) h₀ L → SR c h₀ L Z m ml σ s →
    wpAny c.M A (evalPairs (pairsOf (envOf cn cs L a cd) pos ks es)) (fun vs s' => ∃ l σ' Z', Zsub Z Z' ∧ VRp Z' l vs ∧ SR c h₀ L Z' m ml σ' s' ∧ Q l σ') (fun _ _ => False) s
theorem dw_nil {QL : List (Str × MV) → MH → Prop} (q : QL [] σ) : DW c k cs [] [] ml σ QL := by
  intro A cn L a cd h₀ Z m s pos P S
  exact wpAny_pure ⟨[], σ, Z, .refl, .nil, S, q⟩
noncomputable abbrev KDw2 (x : Str) (QL : List (Str × MV) → MH → Prop) (v : MV) : List (Str × MV) → MH → Prop := fun l σ₂ => QL ((x, v) :: l) σ₂
noncomputable abbrev KDw (c : Cx) (k : Nat) (cs : Scope) (x : Str) (ks : List (Option Expr)) (es : List Expr) (ml : Loc) (QL : List (Str × MV) → MH → Prop) : MV → MH → Prop := fun v σ₁ => DW c k cs ks es ml σ₁ (KDw2 x QL v)
theorem dw_cons {x : Str} {j : Nat} {kp : Pos} {ks : List (Option Expr)} {e : Expr} {es : List Expr} {QL : List (Str × MV) → MH → Prop} (h : EW c k cs e ml σ (KDw c k cs x ks es ml QL)) :
    DW c k cs (some (.Constant (.str x) j kp) :: ks) (e :: es) ml σ QL := by
  intro A cn L a cd h₀ Z m s pos P S
  show wpAny c.M A (evalPairs ((eval (.Constant (.str x) j kp) (envOf cn cs L a cd), do let x ← eval e (envOf cn cs L a cd); standAt pos; pure x) :: pairsOf (envOf cn cs L a cd) pos ks es)) _ _ s
  refine evalPairs_cons (wpAny_mkText ?_)
  refine bind_post (h A cn L a cd h₀ Z m _ P (S.toks _)) fun v σ₁ Z₁ cv s₁ hz V S₁ q₁ => wpAny_bind (wpAny_standAt (wpAny_pure ?_))
  refine wpAny_mono (q₁ A cn L a cd h₀ Z₁ m s₁ pos P S₁) (fun vs s₂ ⟨l, σ₂, Z₂, hz₂, VL, S₂, q₂⟩ => ?_) fun _ _ x => x
  exact ⟨(x, v) :: l, σ₂, Z₂, hz.trans hz₂, .cons (V.mono hz₂) VL, S₂, q₂⟩
theorem pairs_shape {env : Env} : ∀ {keys : List (Option Expr)} {values : List Expr}, keys.all (·.isSome) = true → keys.length = values.length →
    (evalEachOpt keys env).zip ((evalEach values env).map fun v => do let x ← v; standAt pos; pure x) = (pairsOf env pos keys values).map fun p => (some p.1, p.2)
  | [], [], _, _ => rfl
  | some ke :: ks, e :: es, h, hl => by
    show (some (eval ke env), _) :: (evalEachOpt ks env).zip ((evalEach es env).map fun v => do let x ← v; standAt pos; pure x) = _
    rw [pairs_shape (keys := ks) (values := es) (by simpa using h) (by simpa using hl)]
    rfl
  | none :: ks, _, h, _ => by simp at h
  | [], _ :: _, _, hl => by simp at hl
  | _ :: _, [], _, hl => by simp at hl
theorem pairs_len {env : Env} : ∀ {keys : List (Option Expr)} {values : List Expr}, keys.all (·.isSome) = true → keys.length = values.length → (pairsOf env pos keys values).length = keys.length
  | [], [], _, _ => rfl
  | some ke :: ks, e :: es, h, hl => by
    show (pairsOf env pos ks es).length + 1 = _
    rw [pairs_len (keys := ks) (values := es) (by simpa using h) (by simpa using hl)]
    rfl
  | none :: ks, _, h, _ => by simp at h
  | [], _ :: _, _, hl => by simp at hl
  | _ :: _, [], _, hl => by simp at hl

theorem sdNew {o : Obj} {prog : Program} {w : World} (ho : o = { cls := .type "dict", data := .dict #[] }) : o.IsDictOf (PySem.strKind prog w) [] ∧ o.IsDictOf (PySem.intKind prog w) [] := by
  subst ho
  have h1 := Heap.DictOf.new (knd := PySem.strKind prog w) (default : Heap)
  have h2 := Heap.DictOf.new (knd := PySem.intKind prog w) (default : Heap)
  obtain ⟨o1, g1, d1⟩ := Heap.dictOf_iff.mp h1
  obtain ⟨o2, g2, d2⟩ := Heap.dictOf_iff.mp h2
  have e := Heap.get?_push_size (default : Heap) (o := { cls := .type "dict", data := .dict #[] }) rfl
  rw [e] at g1 g2
  cases g1; cases g2
  exact ⟨d1, d2⟩
theorem ew_dict0 (h : ∀ d, σ d = none → Q (.ref d) (updH σ d (.sd []))) : EW c k cs (.Dict [] [] pos) ml σ Q := by
  intro A cn L a cd h₀ Z m s P S
  refine wpAny_Dict_empty ?_
  obtain ⟨hn, S'⟩ := S.born (o := .sd []) s.toks (ob := { cls := .type "dict", data := .dict #[] }) rfl (.sd (sdNew rfl).1 .nil) (S.big P.top)
  exact ⟨_, _, Z, .refl, .ref _, S', h _ hn⟩
theorem ew_dict0i (h : ∀ d, σ d = none → Q (.ref d) (updH σ d (.idt []))) : EW c k cs (.Dict [] [] pos) ml σ Q := by
  intro A cn L a cd h₀ Z m s P S
  refine wpAny_Dict_empty ?_
  obtain ⟨hn, S'⟩ := S.born (o := .idt []) s.toks (ob := { cls := .type "dict", data := .dict #[] }) rfl (.idt (sdNew rfl).2 .nil) (S.big P.top)
  exact ⟨_, _, Z, .refl, .ref _, S', h _ hn⟩
theorem ew_dict {keys : List (Option Expr)} {values : List Expr} (h : ∀ d, σ d = none → DW c k cs keys values ml (updH σ d (.sd [])) fun l σ' => σ' d = some (.sd []) ∧ Q (.ref d) (updH σ' d (.sd (putAll [] l))))
    (hs : keys.all (·.isSome) = true := by rfl) (hl : keys.length = values.length := by rfl) (h0 : keys ≠ [] := by intro x; cases x) (h15 : keys.length ≤ 15 := by decide) : EW c k cs (.Dict keys values pos) ml σ Q := by
  intro A cn L a cd h₀ Z m s P S
  have hlen := pairs_len (env := envOf cn cs L a cd) (pos := pos) hs hl
  refine wpAny_Dict_pairs (knd := PySem.strKind c.prog c.w) (pairs_shape hs hl) (fun e => h0 (by rw [e] at hlen; exact List.length_eq_zero_iff.mp hlen.symm)) (by rw [hlen]; exact h15) ?_
  obtain ⟨hn, S'⟩ := S.born (o := .sd []) s.toks (ob := { cls := .type "dict", data := .dict #[] }) rfl (.sd (sdNew rfl).1 .nil) (S.big P.top)
  refine wpAny_mono (h _ hn A cn L a cd h₀ Z m _ pos P S') (fun vs s₁ ⟨l, σ₁, Z₁, hz, V, S₁, hd, q⟩ => ?_) fun _ _ x => x
  obtain ⟨ob, ho, hg, _⟩ := S₁.at hd
  cases ho with
  | sd hdo hv =>
    cases hv
    refine ⟨_, vrp_carries V, Heap.dictOf_iff.mpr ⟨_, hg, hdo⟩, fun h' hm' hs' => ?_⟩
    obtain ⟨o', hg', hd'⟩ := Heap.dictOf_iff.mp hm'
    exact ⟨_, _, Z₁, hz, .ref _, S₁.change _ hd hs' hg' (.sd hd' (vrp_merged _ V rfl .nil .nil)) (fun z => z), q⟩
end

section
variable {c : Cx} {k : Nat} {cs : Scope} {ml : Loc} {σ : MH} {Q : MV → MH → Prop} {pos : Pos} {R : Fl → Loc → MH → Prop}

/-- an assignment to names -/
noncomputable def AW (c : Cx) (k : Nat) (cs : Scope) (t : Expr) (v : MV) (ml : Loc) (σ : MH) (RR : Loc → MH → Prop) : Prop :=
  ∀ (A : Around) (cn : Str) (L a : Addr) (cd : Value) (h₀ : Heap) (Z : Zm) (m : Str → Option Value) (s : Shared) (cv : Value),
    Pt c k A (envOf cn cs L a cd) h₀ L → SR c h₀ L Z m ml σ s → VR Z v cv →
    wpAny c.M A (assign t (envOf cn cs L a cd) cv) (fun _ s' => ∃ ml' σ' m', SR c h₀ L Z m' ml' σ' s' ∧ RR ml' σ') (fun _ _ => False) s
theorem aw_name {x : Str} {p : Pos} {v : MV} {RR : Loc → MH → Prop} (q : RR (setM x v ml) σ) (hl : cs.names.lookup x = some .local := by kernel_rfl) : AW c k cs (.Name x p) v ml σ RR := by
  intro A cn L a cd h₀ Z m s cv P S V
  exact wpAny_assign_Name (store_w P S V hl fun s' m' S' => ⟨_, σ, m', S', q⟩)
theorem SR.ext {h₀ : Heap} {L : Addr} {Z : Zm} {m : Str → Option Value} {s : Shared} (S : SR c h₀ L Z m ml σ s) {h' : Heap} (he : Heap.ExtBut s.heap.objs.size s.heap h') : SR c h₀ L Z m ml σ { s with heap := h' } := by
  obtain ⟨news, N, C⟩ := S.led
  exact ⟨S.F.extBut he (Nat.le_refl _), S.loc, ⟨news, N.extBut he (Nat.le_refl _), C⟩, S.gens, S.drawn, S.os⟩
noncomputable def AWs (c : Cx) (k : Nat) (cs : Scope) (ts : List Expr) (vs : List MV) (ml : Loc) (σ : MH) (RR : Loc → MH → Prop) : Prop :=
  ∀ (A : Around) (cn : Str) (L a : Addr) (cd : Value) (h₀ : Heap) (Z : Zm) (m : Str → Option Value) (s : Shared) (cvs : List Value),
    Pt c k A (envOf cn cs L a cd) h₀ L → SR c h₀ L Z m ml σ s → VRs Z vs cvs →
    wpAny c.M A (assignInOrder ((assignEach ts (envOf cn cs L a cd)).map (·.2)) cvs) (fun _ s' => ∃ ml' σ' m', SR c h₀ L Z m' ml' σ' s' ∧ RR ml' σ') (fun _ _ => False) s
theorem aws_nil {RR : Loc → MH → Prop} (q : RR ml σ) : AWs c k cs [] [] ml σ RR := by
  intro A cn L a cd h₀ Z m s cvs P S V
  cases V
  exact wpAny_pure ⟨ml, σ, m, S, q⟩
theorem aws_cons {x : Str} {p : Pos} {ts : List Expr} {v : MV} {vs : List MV} {RR : Loc → MH → Prop} (q : AWs c k cs ts vs (setM x v ml) σ RR) (hl : cs.names.lookup x = some .local := by kernel_rfl) : AWs c k cs (.Name x p :: ts) (v :: vs) ml σ RR := by
  intro A cn L a cd h₀ Z m s cvs P S V
  cases V with
  | cons V1 V2 =>
    show wpAny c.M A (assignInOrder (assign (.Name x p) (envOf cn cs L a cd) :: (assignEach ts (envOf cn cs L a cd)).map (·.2)) _) _ _ s
    exact assignInOrder_cons (wpAny_assign_Name (store_w P S V1 hl fun s' m' S' => q A cn L a cd h₀ Z m' s' _ P S' V2))
theorem each_len {env : Env} : ∀ ts : List Expr, (assignEach ts env).length = ts.length
  | [] => rfl
  | e :: ts => by cases e <;> exact congrArg (· + 1) (each_len ts)
theorem each_plain {env : Env} : ∀ {ts : List Expr}, ts.all notStar = true → (assignEach ts env).findIdx? (·.1) = none
  | [], _ => rfl
  | e :: ts, h => by
    obtain ⟨a, b⟩ := Bool.and_eq_true_iff.mp (List.all_cons ▸ h)
    have ih := each_plain (env := env) b
    have : assignEach (e :: ts) env = (false, assign e env) :: assignEach ts env := by cases e <;> first | rfl | cases a
    rw [this, List.findIdx?_cons]
    simp [ih]
theorem aw_tup {ts : List Expr} {j : Nat} {p : Pos} {vs : List MV} {RR : Loc → MH → Prop} (q : AWs c k cs ts vs ml σ RR) (hl : vs.length = ts.length := by rfl) (hp : ts.all notStar = true := by kernel_rfl) : AW c k cs (.Tuple ts j p) (.tup vs) ml σ RR := by
  intro A cn L a cd h₀ Z m s cv P S V
  cases V with
  | @tup t _ ws n hz W =>
    refine assign_Tuple_tuple P.hand (t := t) (items := ws.toArray) ⟨_, (S.atZ hz).1, rfl, n, rfl⟩ (by rw [each_len, List.size_toArray, W.length, hl]) (each_plain hp) fun h' he => ?_
    exact q A cn L a cd h₀ Z m _ _ P (S.ext he) (by simpa using W)
noncomputable abbrev KUnp (c : Cx) (k : Nat) (cs : Scope) (t : Expr) (ml : Loc) (R : Fl → Loc → MH → Prop) : MV → MH → Prop := fun v σ₁ => AW c k cs t v ml σ₁ (R .next)
theorem s_unpack {ts : List Expr} {j : Nat} {p : Pos} {e : Expr} (h : EW c k cs e ml σ (KUnp c k cs (.Tuple ts j p) ml R))
    (hs : ∀ env, swapsWithSole [.Tuple ts j p] e pos.line env = pure false := by intro _; rfl) (hw : ∀ env, swappedStores [.Tuple ts j p] e env = pure none := by intro _; rfl) : S1 c k cs (.Assign [.Tuple ts j p] e pos) ml σ R := by
  intro A cn L a cd h₀ Z m s P S
  refine Assign_Tuple (mono_post (α := Unit) (h A cn L a cd h₀ Z m s P S) fun v σ₁ Z₁ cv s₁ hz V S₁ q => ?_) (hs _) (hw _)
  exact wpAny_mono (q A cn L a cd h₀ Z₁ m s₁ cv P S₁ V) (fun _ s' ⟨ml', σ', m', S', r⟩ => ⟨.next, ml', σ', Z₁, m', hz, .next, S', r⟩) fun _ _ x => x

/-- the next item of an iterator -/
noncomputable def NX (c : Cx) (it : Addr) (σ : MH) (r : Option MV) (σ' : MH) : Prop :=
  ∀ (k : Nat) (A : Around) (cn : Str) (cs : Scope) (L a : Addr) (cd : Value) (h₀ : Heap) (Z : Zm) (m : Str → Option Value) (ml : Loc) (s : Shared) (RR : Option Value → Shared → Prop),
    Pt c k A (envOf cn cs L a cd) h₀ L → SR c h₀ L Z m ml σ s →
    (∀ s', SR c h₀ L Z m ml σ' s' → match r with | none => RR none s' | some mv => ∀ v, VR Z mv v → RR (some v) s') → wpAny c.M A (pyNext (.ref it)) RR (fun _ _ => False) s
/-- an iterator is made -/
noncomputable def IT (c : Cx) (k : Nat) (ov : MV) (σ : MH) (Q : Addr → MH → Prop) : Prop :=
  ∀ (A : Around) (cn : Str) (cs : Scope) (L a : Addr) (cd : Value) (h₀ : Heap) (Z : Zm) (m : Str → Option Value) (ml : Loc) (s : Shared) (v : Value) (RR : Value → Shared → Prop),
    Pt c k A (envOf cn cs L a cd) h₀ L → SR c h₀ L Z m ml σ s → VR Z ov v → (∀ it σ' s', SR c h₀ L Z m ml σ' s' → Q it σ' → RR (.ref it) s') → wpAny c.M A (pyIter v) RR (fun _ _ => False) s

/-- a for loop over an iterator, from a state on -/
noncomputable def FOR (c : Cx) (k : Nat) (cs : Scope) (t : Expr) (it : Addr) (b : List Stmt) (ml : Loc) (σ : MH) (R : Fl → Loc → MH → Prop) : Prop :=
  ∀ (A : Around) (cn : Str) (L a : Addr) (cd : Value) (h₀ : Heap) (Z : Zm) (m : Str → Option Value) (s : Shared),
    Pt c k A (envOf cn cs L a cd) h₀ L → SR c h₀ L Z m ml σ s →
    codeAny c.M A (.forLoop t (.ref it) b [] (envOf cn cs L a cd)) (fun r s' => match r with | .ok f => PostS c h₀ L Z R f s' | .error _ => False) s
noncomputable abbrev KFor2 (c : Cx) (k : Nat) (cs : Scope) (t : Expr) (b : List Stmt) (ml : Loc) (R : Fl → Loc → MH → Prop) : Addr → MH → Prop := fun it σ₂ => FOR c k cs t it b ml σ₂ R
noncomputable abbrev KFor (c : Cx) (k : Nat) (cs : Scope) (t : Expr) (b : List Stmt) (ml : Loc) (R : Fl → Loc → MH → Prop) : MV → MH → Prop := fun ov σ₁ => IT c k ov σ₁ (KFor2 c k cs t b ml R)
theorem s_for {t i : Expr} {b : List Stmt} (h : EW c k cs i ml σ (KFor c k cs t b ml R))
    (hs : ∀ env x, foldedSetIterable i env x = pure x := by intro _ _; rfl) : S1 c k cs (.For t i b [] pos) ml σ R := by
  intro A cn L a cd h₀ Z m s P S
  refine wpAny_For (mono_post (α := Unit) (h A cn L a cd h₀ Z m s P S) fun ov σ₁ Z₁ v s₁ hz V S₁ q => ?_) (hs _)
  refine q A cn cs L a cd h₀ Z₁ m ml s₁ v _ P S₁ V fun it σ₂ s₂ S₂ q₂ => ?_
  exact codeAny_mono (q₂ A cn L a cd h₀ Z₁ m s₂ P S₂) fun r s' y => by cases r <;> first | exact y.up hz | exact y.elim

noncomputable def nameT : Expr → Bool
  | .Name .. => true
  | _ => false
theorem let_name {t : Expr} {it v : Value} (h : nameT t = true) : letOwnedTupleGo t it v = pure () := by cases t <;> first | rfl | cases h
theorem codeAny_for1 {prog : Program} {w : World} {A : Around} {RR : Result → Shared → Prop} {s : Shared} {t : Expr} {it : Value} {b : List Stmt} {env : Env}
    (h : wpAny (model prog w) A (pyNext it) (fun r s₁ => match r with
      | none => RR (.ok .next) s₁
      | some v => wpAny (model prog w) A (letOwnedTupleGo t it v) (fun _ s₁' => wpAny (model prog w) A (assign t env v) (fun _ s₂ => wpAny (model prog w) A (execs b env) (fun f s₃ => match f with
          | .next | .cont => codeAny (model prog w) A (.forLoop t it b [] env) RR s₃
          | .brk => RR (.ok .next) s₃
          | .ret v => RR (.ok (.ret v)) s₃) (fun _ _ => False) s₂) (fun _ _ => False) s₁') (fun _ _ => False) s₁) (fun _ _ => False) s) : codeAny (model prog w) A (.forLoop t it b [] env) RR s := by
  refine codeAny_of_own (wpOwn_of_wpAny ?_)
  show wpAny _ (A.under _) ((forTurn t it b [] env).onRaise (fun x => do noteFrame x env; theTreesLotGoes x)) _ _ s
  rw [Around.under_of_weight (show (Code.forLoop t it b [] env).weight = 0 from rfl)]
  refine wpAny_onRaise (wpAny_mono (Q := fun fin s' => match fin with | .done f => RR (.ok f) s' | .again c' => c'.quiet = true ∧ codeAny (model prog w) A c' RR s') (E := fun _ _ => False) ?_ (fun fin s' q => by cases fin <;> exact q) fun _ _ x => x.elim)
  unfold forTurn
  refine wpAny_bind (wpAny_standAt (wpAny_bind (wpAny_onRaise (wpAny_mono h (fun r s₁ q => ?_) fun _ _ x => x.elim))))
  cases r with
  | none => exact wpAny_pure ⟨rfl, codeAny_block (wpAny_execs_nil q)⟩
  | some v =>
    refine wpAny_bind (wpAny_mono q (fun _ s₂ q₂ => wpAny_bind (wpAny_mono q₂ (fun _ s₃ q₃ => wpAny_bind (wpAny_mono q₃ (fun f s₄ q₄ => ?_) fun _ _ x => x)) fun _ _ x => x)) fun _ _ x => x)
    cases f with
    | next => exact wpAny_pure ⟨rfl, q₄⟩
    | cont => exact wpAny_pure ⟨rfl, q₄⟩
    | brk => exact wpAny_pure q₄
    | ret v => exact wpAny_pure q₄

/-- the turn's end -/
noncomputable def TurnE (c : Cx) (k : Nat) (cs : Scope) (t : Expr) (it : Addr) (b : List Stmt) (R : Fl → Loc → MH → Prop) : Fl → Loc → MH → Prop := fun fl ml σ => match fl with
  | .next | .cont => FOR c k cs t it b ml σ R
  | .brk => R .next ml σ
  | .ret v => R (.ret v) ml σ
theorem for_end {t : Expr} {it : Addr} {b : List Stmt} {σ' : MH} (hn : NX c it σ none σ') (q : R .next ml σ') : FOR c k cs t it b ml σ R := by
  intro A cn L a cd h₀ Z m s P S
  exact codeAny_for1 (hn k A cn cs L a cd h₀ Z m ml s _ P S fun s' S' => ⟨.next, ml, σ', Z, m, .refl, .next, S', q⟩)
/-- the owner of a tuple that is unpacked is looked at -/
noncomputable def LetGo (c : Cx) (t : Expr) (it : Addr) (σ : MH) : Prop :=
  ∀ (A : Around) (L : Addr) (h₀ : Heap) (Z : Zm) (m : Str → Option Value) (ml : Loc) (s : Shared) (v : Value) (RR : Unit → Shared → Prop), SR c h₀ L Z m ml σ s → RR () s → wpAny c.M A (letOwnedTupleGo t (.ref it) v) RR (fun _ _ => False) s
theorem lg_name {t : Expr} {it : Addr} (h : nameT t = true) : LetGo c t it σ := by
  intro A L h₀ Z m ml s v RR S q
  rw [let_name h]
  exact wpAny_pure q
theorem lg_list {ts : List Expr} {j : Nat} {p : Pos} {it : Addr} {src : MV} {i : Nat} (h : σ it = some (.liter src i)) : LetGo c (.Tuple ts j p) it σ := by
  intro A L h₀ Z m ml s v RR S q
  obtain ⟨ob, ho, hg, _⟩ := S.at h
  cases ho with
  | liter V hc hd =>
    show wpAny c.M A (do
      let (.ref r, .ref a) := (Value.ref it, v) | return
      let o ← load r
      match o.cls, o.data with
      | .type n, .fields vs =>
        if ["enumerate", "zip", "dict_itemiterator", "dict_reverseitemiterator", "odict_iterator", "itertools.zip_longest", "itertools.pairwise"].contains n && vs[0]? == some (rawInt a) then
          rule "for.unpacks-the-owned-tuple"
          updateField r 0 .none
      | _, _ => pure ()) _ _ s
    cases v <;> first | exact wpAny_pure q | skip
    refine wpAny_bind (wpAny_load hg ?_)
    rw [hc, hd]
    dsimp only
    rw [if_neg (by rw [show (["enumerate", "zip", "dict_itemiterator", "dict_reverseitemiterator", "odict_iterator", "itertools.zip_longest", "itertools.pairwise"] : List String).contains "list_iterator" = false from by decide +kernel]; simp)]
    exact wpAny_pure q
theorem for_item {t : Expr} {it : Addr} {b : List Stmt} {v : MV} {σ' : MH} (hn : NX c it σ (some v) σ') (hg : LetGo c t it σ') (q : AW c k cs t v ml σ' fun ml₂ σ₂ => SW c k cs b ml₂ σ₂ (TurnE c k cs t it b R)) : FOR c k cs t it b ml σ R := by
  intro A cn L a cd h₀ Z m s P S
  refine codeAny_for1 (hn k A cn cs L a cd h₀ Z m ml s _ P S fun s' S' cv V => ?_)
  refine hg A L h₀ Z m ml s' cv _ S' ?_
  refine wpAny_mono (q A cn L a cd h₀ Z m s' cv P S' V) (fun _ s₂ ⟨ml₂, σ₂, m₂, S₂, q₂⟩ => ?_) fun _ _ x => x
  refine wpAny_mono (q₂ A cn L a cd h₀ Z m₂ s₂ P S₂) (fun f s₃ ⟨fl, ml₃, σ₃, Z₃, m₃, hz, hf, S₃, q₃⟩ => ?_) fun _ _ x => x
  have go : FOR c k cs t it b ml₃ σ₃ R → codeAny (model c.prog c.w) A (.forLoop t (.ref it) b [] (envOf cn cs L a cd)) (fun r s' => match r with | .ok f => PostS c h₀ L Z R f s' | .error _ => False) s₃ := fun y =>
    codeAny_mono (y A cn L a cd h₀ Z₃ m₃ s₃ P S₃) fun r s' y => by cases r with | ok f => exact y.up hz | error e => exact y
  cases hf with
  | next => exact go q₃
  | cont => exact go q₃
  | brk => exact ⟨.next, ml₃, σ₃, Z₃, m₃, hz, .next, S₃, q₃⟩
  | ret V => exact ⟨.ret _, ml₃, σ₃, Z₃, m₃, hz, .ret V, S₃, q₃⟩
end

section
variable {c : Cx} {k : Nat} {cs : Scope} {ml : Loc} {σ : MH} {Q : MV → MH → Prop} {pos : Pos} {R : Fl → Loc → MH → Prop}

/-- lists -/
theorem it_list {ov : MV} {ms : List MV} {QQ : Addr → MH → Prop} (h : ListAt c ov σ ms) (q : ∀ it, σ it = none → QQ it (updH σ it (.liter ov 0))) : IT c k ov σ QQ := by
  intro A cn cs L a cd h₀ Z m ml s v RR P S V qq
  obtain ⟨l, ws, n, rfl, hg, W⟩ := h _ _ _ _ _ _ _ S V
  refine wpAny_pyIter_list ⟨_, hg, rfl, n, rfl⟩ ?_
  obtain ⟨hn, S'⟩ := S.born (o := .liter ov 0) s.toks (ob := { cls := .type "list_iterator", data := .fields #[.ref l, .int 0 0] }) rfl (.liter V rfl rfl) trivial
  exact qq _ _ _ S' (q _ hn)
theorem nx_list {it : Addr} {src : MV} {i : Nat} {ms : List MV} {r : MV} (h : σ it = some (.liter src i)) (hl : ListAt c src σ ms) (hr : ms[i]? = some r) : NX c it σ (some r) (updH σ it (.liter src (i + 1))) := by
  intro k A cn cs L a cd h₀ Z m ml s RR P S q
  obtain ⟨ob, ho, hg, _⟩ := S.at h
  cases ho with
  | liter V hc hd =>
    obtain ⟨l', ws, n, e, hg', W⟩ := hl _ _ _ _ _ _ _ S V
    cases e
    obtain ⟨x, hx, X⟩ := W.get hr
    refine wpAny_pyNext_list_item ⟨_, hg, hc, hd⟩ ⟨_, hg', rfl, n, rfl⟩ (by simpa using hx) fun h' ⟨o', ho', hc', hd'⟩ hs' => ?_
    exact q _ (S.change s.toks h hs' ho' (.liter V hc' hd') (fun z => z)) x X
theorem nx_listend {it : Addr} {src : MV} {i : Nat} {ms : List MV} (h : σ it = some (.liter src i)) (hl : ListAt c src σ ms) (hr : ms.length ≤ i) : NX c it σ none (delH σ it) := by
  intro k A cn cs L a cd h₀ Z m ml s RR P S q
  obtain ⟨ob, ho, hg, _⟩ := S.at h
  cases ho with
  | liter V hc hd =>
    obtain ⟨l', ws, n, e, hg', W⟩ := hl _ _ _ _ _ _ _ S V
    cases e
    refine wpAny_pyNext_list_end P.hand ⟨_, hg, hc, hd⟩ ⟨_, hg', rfl, n, rfl⟩ (by simp [W.length]; lia) fun h' hs' => ?_
    exact q _ (S.drop s.toks h hs')

/-- tuples -/
theorem it_tup {ms : List MV} {QQ : Addr → MH → Prop} (q : ∀ it, σ it = none → QQ it (updH σ it (.titer (.tup ms) 0))) : IT c k (.tup ms) σ QQ := by
  intro A cn cs L a cd h₀ Z m ml s v RR P S V qq
  cases V with
  | @tup l _ ws n hz W =>
    refine wpAny_pyIter_tuple ⟨_, (S.atZ hz).1, rfl, n, rfl⟩ ?_
    obtain ⟨hn, S'⟩ := S.born (o := .titer (.tup ms) 0) s.toks (ob := { cls := .type "tuple_iterator", data := .fields #[.ref l, .int 0 0] }) rfl (.titer (.tup hz W) rfl rfl) trivial
    exact qq _ _ _ S' (q _ hn)
theorem nx_tup {it : Addr} {i : Nat} {ms : List MV} {r : MV} (h : σ it = some (.titer (.tup ms) i)) (hr : ms[i]? = some r) : NX c it σ (some r) (updH σ it (.titer (.tup ms) (i + 1))) := by
  intro k A cn cs L a cd h₀ Z m ml s RR P S q
  obtain ⟨ob, ho, hg, _⟩ := S.at h
  cases ho with
  | titer V hc hd =>
    cases id V with
    | @tup l _ ws n hz W =>
      obtain ⟨x, hx, X⟩ := W.get hr
      refine wpAny_pyNext_tuple_item ⟨_, hg, hc, hd⟩ ⟨_, (S.atZ hz).1, rfl, n, rfl⟩ (by simpa using hx) fun h' ⟨o', ho', hc', hd'⟩ hs' => ?_
      exact q _ (S.change s.toks h hs' ho' (.titer V hc' hd') (fun z => z)) x X
theorem nx_tupend {it : Addr} {i : Nat} {ms : List MV} (h : σ it = some (.titer (.tup ms) i)) (hr : ms.length ≤ i) : NX c it σ none (delH σ it) := by
  intro k A cn cs L a cd h₀ Z m ml s RR P S q
  obtain ⟨ob, ho, hg, _⟩ := S.at h
  cases ho with
  | titer V hc hd =>
    cases id V with
    | @tup l _ ws n hz W =>
      refine wpAny_pyNext_tuple_end P.hand ⟨_, hg, hc, hd⟩ ⟨_, (S.atZ hz).1, rfl, n, rfl⟩ (by simp [W.length]; lia) fun h' hs' => ?_
      exact q _ (S.drop s.toks h hs')

/-- ranges -/
theorem cw_range {n : Int} (q : ∀ r, σ r = none → Q (.ref r) (updH σ r (.rng n))) : CW c k (.type "range") [.int n] σ Q := by
  intro A cn cs L a cd h₀ Z m ml s vs P S V
  obtain ⟨v₁, rfl, V₁⟩ := vrs1 V
  cases V₁ with
  | int _ t =>
    refine call_range_1 ?_
    obtain ⟨hn, S'⟩ := S.born (o := .rng n) (s.toks + 1 + 1) (ob := { cls := .type "range", data := .fields #[.int 0 s.toks, .int n t, .int 1 (s.toks + 1)] }) rfl .rng trivial
    exact ⟨_, _, Z, .refl, .ref _, S', q _ hn⟩
theorem it_range {r : Addr} {n : Int} {QQ : Addr → MH → Prop} (h : σ r = some (.rng n)) (h0 : 0 ≤ n) (h1 : n < 2 ^ 62) (q : ∀ it, σ it = none → QQ it (updH σ it (.riter 0 n))) : IT c k (.ref r) σ QQ := by
  intro A cn cs L a cd h₀ Z m ml s v RR P S V qq
  cases V
  obtain ⟨ob, ho, hg, _⟩ := S.at h
  cases ho with
  | rng =>
    refine wpAny_pyIter_range hg (small_one (by lia) (by lia) (by lia) h1) ?_
    have e : Builtin.Range.rangeSize 0 n 1 = n := by rw [rangeSize_one]; split <;> lia
    rw [e]
    obtain ⟨hn, S'⟩ := S.born (o := .riter 0 n) s.toks (ob := { cls := .type "range_iterator", data := .fields #[rawInt 0, rawInt n, rawInt 1] }) rfl .riter trivial
    exact qq _ _ _ S' (q _ hn)
theorem nx_range {it : Addr} {x left : Int} (h : σ it = some (.riter x left)) (hl : 0 < left) : NX c it σ (some (.int x)) (updH σ it (.riter (x + 1) (left - 1))) := by
  intro k A cn cs L a cd h₀ Z m ml s RR P S q
  obtain ⟨ob, ho, hg, _⟩ := S.at h
  cases ho with
  | riter =>
    refine wpAny_pyNext_range_item hg hl fun h' hit' hs' => ?_
    exact q _ (S.change (s.toks + 1) h hs' hit' .riter (fun z => z)) _ (.int _ _)
theorem nx_rangeend {it : Addr} {x left : Int} (h : σ it = some (.riter x left)) (hl : left ≤ 0) : NX c it σ none (delH σ it) := by
  intro k A cn cs L a cd h₀ Z m ml s RR P S q
  obtain ⟨ob, ho, hg, _⟩ := S.at h
  cases ho with
  | riter => exact wpAny_pyNext_range_end P.hand hg hl fun h' hs' => q _ (S.drop s.toks h hs')

/-- strs -/
theorem it_str {x : Str} {QQ : Addr → MH → Prop} (ha : x.cps.all (· < 128) = true) (q : ∀ it, σ it = none → QQ it (updH σ it (.siter x 0))) : IT c k (.str x) σ QQ := by
  intro A cn cs L a cd h₀ Z m ml s v RR P S V qq
  cases V with
  | str _ t =>
    refine wpAny_pyIter_ascii ha ?_
    obtain ⟨hn, S'⟩ := S.born (o := .siter x 0) s.toks (ob := { cls := .type "str_ascii_iterator", data := .fields #[.str x t, .int 0 0] }) rfl (.siter rfl rfl) trivial
    exact qq _ _ _ S' (q _ hn)
theorem nx_str {it : Addr} {x : Str} {i d : Nat} (h : σ it = some (.siter x i)) (hx : x.cps[i]? = some d) : NX c it σ (some (.str ⟨#[d]⟩)) (updH σ it (.siter x (i + 1))) := by
  intro k A cn cs L a cd h₀ Z m ml s RR P S q
  obtain ⟨ob, ho, hg, _⟩ := S.at h
  cases ho with
  | siter hc hd =>
    refine wpAny_pyNext_ascii_item ⟨_, hg, hc, hd⟩ hx fun h' ⟨o', ho', hc', hd'⟩ hs' => ?_
    exact q _ (S.change (s.toks + 1) h hs' ho' (.siter hc' hd') (fun z => z)) _ (.str _ _)
theorem nx_strend {it : Addr} {x : Str} {i : Nat} (h : σ it = some (.siter x i)) (hx : x.cps[i]? = none) : NX c it σ none (delH σ it) := by
  intro k A cn cs L a cd h₀ Z m ml s RR P S q
  obtain ⟨ob, ho, hg, _⟩ := S.at h
  cases ho with
  | siter hc hd => exact wpAny_pyNext_ascii_end P.hand ⟨_, hg, hc, hd⟩ hx fun h' hs' => q _ (S.drop s.toks h hs')

/-- lists from behind -/
theorem cw_reversed {ov : MV} {ms : List MV} (hl : ListAt c ov σ ms) (q : ∀ r, σ r = none → Q (.ref r) (updH σ r (.viter ov ((ms.length : Int) - 1)))) : CW c k (.type "reversed") [ov] σ Q := by
  intro A cn cs L a cd h₀ Z m ml s vs P S V
  obtain ⟨v₁, rfl, V₁⟩ := vrs1 V
  obtain ⟨l, ws, n, rfl, hg, W⟩ := hl _ _ _ _ _ _ _ S V₁
  refine call_reversed_list ⟨_, hg, rfl, n, rfl⟩ ?_
  have e : ((ws.toArray.size : Int) - 1) = (ms.length : Int) - 1 := by simp [W.length]
  rw [e]
  obtain ⟨hn, S'⟩ := S.born (o := .viter ov ((ms.length : Int) - 1)) s.toks (ob := revObj l ((ms.length : Int) - 1)) rfl (.viter V₁ rfl rfl) trivial
  exact ⟨_, _, Z, .refl, .ref _, S', q _ hn⟩
theorem it_rev {it : Addr} {src : MV} {i : Int} {QQ : Addr → MH → Prop} (h : σ it = some (.viter src i)) (q : QQ it σ) : IT c k (.ref it) σ QQ := by
  intro A cn cs L a cd h₀ Z m ml s v RR P S V qq
  cases V
  obtain ⟨ob, ho, hg, _⟩ := S.at h
  cases ho with
  | viter V hc hd => exact wpAny_pyIter_revIter ⟨_, hg, hc, hd⟩ (qq _ _ _ S q)
theorem nx_rev {it : Addr} {src : MV} {i : Nat} {ms : List MV} {r : MV} (h : σ it = some (.viter src i)) (hl : ListAt c src σ ms) (hr : ms[i]? = some r) : NX c it σ (some r) (updH σ it (.viter src ((i : Int) - 1))) := by
  intro k A cn cs L a cd h₀ Z m ml s RR P S q
  obtain ⟨ob, ho, hg, _⟩ := S.at h
  cases ho with
  | viter V hc hd =>
    obtain ⟨l', ws, n, e, hg', W⟩ := hl _ _ _ _ _ _ _ S V
    cases e
    obtain ⟨x, hx, X⟩ := W.get hr
    refine wpAny_pyNext_rev_item ⟨_, hg, hc, hd⟩ ⟨_, hg', rfl, n, rfl⟩ (by simpa using hx) fun h' ⟨o', ho', hc', hd'⟩ hs' => ?_
    exact q _ (S.change s.toks h hs' ho' (.viter V hc' hd') (fun z => z)) x X
theorem nx_revend {it : Addr} {src : MV} (h : σ it = some (.viter src (-1))) : NX c it σ none (delH σ it) := by
  intro k A cn cs L a cd h₀ Z m ml s RR P S q
  obtain ⟨ob, ho, hg, _⟩ := S.at h
  cases ho with
  | viter V hc hd => exact wpAny_pyNext_rev_end P.hand ⟨_, hg, hc, hd⟩ fun h' hs' => q _ (S.drop s.toks h hs')

/-- an address may be forgotten -/
theorem SR.forget {h₀ : Heap} {L : Addr} {Z : Zm} {m : Str → Option Value} {s : Shared} (S : SR c h₀ L Z m ml σ s) (a : Addr) : SR c h₀ L Z m ml (delH σ a) s := by
  obtain ⟨news, N, C⟩ := S.led
  refine ⟨S.F, S.loc, ⟨news, N, fun b x e => ?_, C.2⟩, S.gens, S.drawn, S.os⟩
  have hb : b ≠ a := fun q => by subst q; simp [delH] at e
  rw [delH_ne hb] at e
  exact C.1 b x e
theorem SR.sub {h₀ : Heap} {L : Addr} {Z : Zm} {m : Str → Option Value} {s : Shared} {σ' : MH} (S : SR c h₀ L Z m ml σ s) (h : ∀ a o, σ' a = some o → σ a = some o) : SR c h₀ L Z m ml σ' s := by
  obtain ⟨news, N, C⟩ := S.led
  exact ⟨S.F, S.loc, ⟨news, N, fun b x e => C.1 b x (h b x e), C.2⟩, S.gens, S.drawn, S.os⟩
/-- less may be known of the heap -/
theorem Gh.sub {mv : MV} {σ' : MH} (h : ∀ a o, σ' a = some o → σ a = some o) (q : Gh c Q mv σ') : Gh c Q mv σ := fun h₀ L Z m ml s v V S => q h₀ L Z m ml s v V (S.sub h)
end

theorem VR.handedTruth {Z : Zm} {b : Bool} {v : Value} (h : VR Z (.bool b) v) : v = .bool b := by cases h; rfl

-- data: what is compared in depth
mutual
noncomputable def toD : MV → PyData
  | .none => .none
  | .bool b => .bool b
  | .int i => .int i
  | .str x => .str x
  | .ref _ => .none
  | .tup l => .tuple (toDs l)
  | .flist l => .list (toDs l)
  | .finst _ _ => .none
noncomputable def toDs : List MV → List PyData
  | [] => []
  | m :: l => toD m :: toDs l
end
mutual
noncomputable def okD : MV → Bool
  | .none => true
  | .bool _ => true
  | .int _ => true
  | .str x => PyData.strOk x
  | .ref _ => false
  | .tup l => okDs l
  | .flist l => okDs l
  | .finst _ _ => false
noncomputable def okDs : List MV → Bool
  | [] => true
  | m :: l => okD m && okDs l
end
mutual
noncomputable def depD : MV → Nat
  | .tup l => depDs l + 1
  | .flist l => depDs l + 1
  | _ => 0
noncomputable def depDs : List MV → Nat
  | [] => 0
  | m :: l => max (depD m) (depDs l)
end
mutual
theorem okD_lay : ∀ m : MV, okD m = true → (toD m).canLay0 = true
  | .none, _ => rfl
  | .bool _, _ => rfl
  | .int _, _ => rfl
  | .str x, h => by simpa [toD, PyData.canLay0, okD] using h
  | .ref _, h => by simp [okD] at h
  | .tup l, h => by simpa [toD, PyData.canLay0] using okDs_lay l (by simpa [okD] using h)
  | .flist l, h => by simpa [toD, PyData.canLay0] using okDs_lay l (by simpa [okD] using h)
  | .finst _ _, h => by simp [okD] at h
theorem okDs_lay : ∀ l : List MV, okDs l = true → PyData.canLayAll0 (toDs l) = true
  | [], _ => rfl
  | m :: l, h => by
    simp only [okDs, Bool.and_eq_true] at h
    simp only [toDs, PyData.canLayAll0, okD_lay m h.1, okDs_lay l h.2, Bool.and_self]
end
mutual
theorem reads_of {c : Cx} {h₀ : Heap} {L : Addr} {Z : Zm} {m : Str → Option Value} {ml : Loc} {σ : MH} {s : Shared} (S : SR c h₀ L Z m ml σ s) : ∀ {x : MV} {v : Value}, okD x = true → VR Z x v → ∃ as, Reads s.heap v (toD x) as
  | _, _, _, .none => ⟨_, .none⟩
  | _, _, _, .bool b => ⟨_, .bool b⟩
  | _, _, _, .int i t => ⟨_, .int i t⟩
  | _, _, _, .str x t => ⟨_, .str x t⟩
  | .ref _, _, h, .ref _ => by simp [okD] at h
  | .tup l, _, h, .tup hz W => by
    obtain ⟨as, r⟩ := reads_all S (by simpa [okD] using h) W
    exact ⟨_, .tuple (S.atZ hz).1 rfl rfl (by simpa using r)⟩
  | .flist l, _, h, .flist hz W => by
    obtain ⟨as, r⟩ := reads_all S (by simpa [okD] using h) W
    exact ⟨_, .list (S.atZ hz).1 rfl rfl (by simpa using r)⟩
  | .finst _ _, _, h, .finst _ _ _ => by simp [okD] at h
theorem reads_all {c : Cx} {h₀ : Heap} {L : Addr} {Z : Zm} {m : Str → Option Value} {ml : Loc} {σ : MH} {s : Shared} (S : SR c h₀ L Z m ml σ s) : ∀ {l : List MV} {vs : List Value}, okDs l = true → VRs Z l vs → ∃ as, ReadsAll s.heap vs (toDs l) as
  | [], _, _, .nil => ⟨_, .nil⟩
  | x :: l, _, h, .cons V W => by
    simp only [okDs, Bool.and_eq_true] at h
    obtain ⟨as, r⟩ := reads_of S h.1 V
    obtain ⟨bs, r'⟩ := reads_all S h.2 W
    exact ⟨_, .cons r r'⟩
end

section
variable {c : Cx} {k : Nat} {cs : Scope} {ml : Loc} {σ : MH} {Q : MV → MH → Prop} {pos : Pos} {R : Fl → Loc → MH → Prop}

theorem ow_eqdata {x y : MV} (hx : okD x = true) (hy : okD y = true) (hd : min (toD x).depth (toD y).depth ≤ 100) (q : Q (.bool (PyData.eqv (toD x) (toD y))) σ) :
    OW c k (fun vs => compareOp .Eq (vs.getD 0 .none) (vs.getD 1 .none)) [x, y] σ Q := by
  intro A cn cs L a cd h₀ Z m ml s vs P S V
  obtain ⟨v₁, v₂, rfl, V₁, V₂⟩ := vrs2 V
  obtain ⟨as, ra⟩ := reads_of S hx V₁
  obtain ⟨bs, rb⟩ := reads_of S hy V₂
  have := P.units
  exact SeqAt.compareEq_reads ra rb (okD_lay _ hx) (okD_lay _ hy) (by lia) ⟨_, σ, Z, .refl, .bool _, S, q⟩
theorem eqv_self {x : MV} (hx : okD x = true) : PyData.eqv (toD x) (toD x) = true := SeqAt.eqv_refl _ (okD_lay _ hx)

/-- a list beside an empty one -/
theorem ow_neempty {ov : MV} {e : Addr} {ms : List MV} (hl : ListAt c ov σ ms) (he : ListAt c (.ref e) σ []) (hne : ∀ a, ov = .ref a → a ≠ e) (hf : ∀ l, ov ≠ .flist l) (q : Q (.bool (!ms.isEmpty)) σ) :
    OW c k (fun vs => compareOp .NotEq (vs.getD 0 .none) (vs.getD 1 .none)) [ov, .ref e] σ Q := by
  intro A cn cs L a cd h₀ Z m ml s vs P S V
  obtain ⟨v₁, v₂, rfl, V₁, V₂⟩ := vrs2 V
  obtain ⟨l, ws, n, rfl, hg, W⟩ := hl _ _ _ _ _ _ _ S V₁
  obtain ⟨l2, ws2, n2, rfl, hg2, W2⟩ := he _ _ _ _ _ _ _ S V₂
  cases W2
  have hu : A.units < cLine := by have := P.units; lia
  cases ms with
  | nil =>
    cases W
    exact SeqAt.RcNeAt.lists (e := fun _ => true) ⟨_, hg, rfl, n, rfl⟩ ⟨_, hg2, rfl, n2, rfl⟩ rfl hu (fun j h1 _ => absurd h1 (Nat.not_lt_zero _)) _ _ _ _ ⟨_, σ, Z, .refl, .bool _, S, q⟩
  | cons x xs =>
    have hlen := W.length
    exact SeqAt.RcNeAt.lists_lengths ⟨_, hg, rfl, n, rfl⟩ ⟨_, hg2, rfl, n2, rfl⟩ (by simp [hlen]) hu _ _ _ _ ⟨_, σ, Z, .refl, .bool _, S, q⟩
theorem ow_eqempty {ov : MV} {e : Addr} {ms : List MV} (hl : ListAt c ov σ ms) (he : ListAt c (.ref e) σ []) (q : Q (.bool (ms.isEmpty)) σ) :
    OW c k (fun vs => compareOp .Eq (vs.getD 0 .none) (vs.getD 1 .none)) [ov, .ref e] σ Q := by
  intro A cn cs L a cd h₀ Z m ml s vs P S V
  obtain ⟨v₁, v₂, rfl, V₁, V₂⟩ := vrs2 V
  obtain ⟨l, ws, n, rfl, hg, W⟩ := hl _ _ _ _ _ _ _ S V₁
  obtain ⟨l2, ws2, n2, rfl, hg2, W2⟩ := he _ _ _ _ _ _ _ S V₂
  cases W2
  have hu : A.units < cLine := by have := P.units; lia
  cases ms with
  | nil =>
    cases W
    exact SeqAt.eq_listAt (e := fun _ => true) ⟨_, hg, rfl, n, rfl⟩ ⟨_, hg2, rfl, n2, rfl⟩ rfl hu (fun j h1 _ => absurd h1 (Nat.not_lt_zero _)) ⟨_, σ, Z, .refl, .bool _, S, q⟩
  | cons x xs =>
    have hlen := W.length
    exact SeqAt.eq_list_lengthsAt ⟨_, hg, rfl, n, rfl⟩ ⟨_, hg2, rfl, n2, rfl⟩ (by simp [hlen]) hu ⟨_, σ, Z, .refl, .bool _, S, q⟩

/-- numbers -/
theorem ow_and {a b : Int} (q : Q (.int (Builtin.bitAnd a b)) σ) : OW c k (fun vs => binaryOp .BitAnd (vs.getD 0 .none) (vs.getD 1 .none)) [.int a, .int b] σ Q :=
  ow_pure2 q fun A Z s v w R V W h => by cases V; cases W; exact PyProof.Rows.and_int (h _ _ (.int _ _))
theorem ow_or {a b : Int} (q : Q (.int (Builtin.bitOr a b)) σ) : OW c k (fun vs => binaryOp .BitOr (vs.getD 0 .none) (vs.getD 1 .none)) [.int a, .int b] σ Q :=
  ow_pure2 q fun A Z s v w R V W h => by cases V; cases W; exact PyProof.Rows.or_int (h _ _ (.int _ _))
theorem ow_shr {a b : Int} (hb : 0 ≤ b) (q : Q (.int (a.fdiv (2 ^ b.toNat))) σ) : OW c k (fun vs => binaryOp .RShift (vs.getD 0 .none) (vs.getD 1 .none)) [.int a, .int b] σ Q :=
  ow_pure2 q fun A Z s v w R V W h => by cases V; cases W; exact PyProof.Rows.rshift_int hb (h _ _ (.int _ _))
theorem ow_notintup {y : Str} {ss : List Str} (q : Q (.bool (!decide (y ∈ ss))) σ) : OW c k (fun vs => compareOp .NotIn (vs.getD 0 .none) (vs.getD 1 .none)) [.str y, .tup (ss.map .str)] σ Q := by
  intro A cn cs L a cd h₀ Z m ml s vs P S V
  obtain ⟨v₁, v₂, rfl, V₁, V₂⟩ := vrs2 V
  cases V₁ with
  | str _ t =>
  cases V₂ with
  | tup hz W =>
    obtain ⟨h1, h2⟩ := vrs_strs W y t
    refine SeqAt.notIn_tupleAt (strIs y) ⟨_, (S.atZ hz).1, rfl, _, rfl⟩ (fun v hv => (h1 v hv).at _ _) ?_
    rw [h2]
    exact ⟨_, σ, Z, .refl, .bool _, S, q⟩
theorem ew_neg {e : Expr} {i : Int} (h : EW c k cs e ml σ fun v σ₁ => v = .int i ∧ Q (.int (-i)) σ₁) : EW c k cs (.UnaryOp .USub e pos) ml σ Q := by
  intro A cn L a cd h₀ Z m s P S
  refine UnaryOp_ (mono_post (α := Unit) (h A cn L a cd h₀ Z m s P S) fun x σ₁ Z₁ v s₁ hz V S₁ ⟨e, q⟩ => ?_)
  subst e
  cases V
  exact PyProof.Rows.neg_int ⟨_, σ₁, Z₁, hz, .int _ _, S₁.toks _, q⟩

/-- and, or, as values of bools -/
theorem ew_bool1 {op : BoolOp} {e : Expr} (h : EW c k cs e ml σ Q) : EW c k cs (.BoolOp op [e] pos) ml σ Q := by
  intro A cn L a cd h₀ Z m s P S
  exact BoolOp_one (h A cn L a cd h₀ Z m s P S)
noncomputable abbrev KAndv (c : Cx) (k : Nat) (cs : Scope) (e : Expr) (ml : Loc) (Q : MV → MH → Prop) : Bool → MH → Prop := fun b σ₁ => if b = true then EW c k cs e ml σ₁ Q else Q (.bool false) σ₁
theorem ew_andv {e e' : Expr} {es : List Expr} (h : EW c k cs e ml σ (KBool (KAndv c k cs (.BoolOp .And (e' :: es) pos) ml Q))) : EW c k cs (.BoolOp .And (e :: e' :: es) pos) ml σ Q := by
  intro A cn L a cd h₀ Z m s P S
  refine BoolOp_and (mono_post (α := Unit) (h A cn L a cd h₀ Z m s P S) fun x σ₁ Z₁ v s₁ hz V S₁ ⟨b, e, q⟩ => ?_)
  subst e
  cases V
  refine wpAny_truthy_bool ?_
  cases b with
  | false => exact ⟨_, σ₁, Z₁, hz, .bool _, S₁, q⟩
  | true => exact wpAny_mono (q A cn L a cd h₀ Z₁ m s₁ P S₁) (fun _ _ q => q.up hz) fun _ _ x => x
noncomputable abbrev KOrv (c : Cx) (k : Nat) (cs : Scope) (e : Expr) (ml : Loc) (Q : MV → MH → Prop) : Bool → MH → Prop := fun b σ₁ => if b = true then Q (.bool true) σ₁ else EW c k cs e ml σ₁ Q
theorem ew_orv {e e' : Expr} {es : List Expr} (h : EW c k cs e ml σ (KBool (KOrv c k cs (.BoolOp .Or (e' :: es) pos) ml Q))) : EW c k cs (.BoolOp .Or (e :: e' :: es) pos) ml σ Q := by
  intro A cn L a cd h₀ Z m s P S
  refine BoolOp_or (mono_post (α := Unit) (h A cn L a cd h₀ Z m s P S) fun x σ₁ Z₁ v s₁ hz V S₁ ⟨b, e, q⟩ => ?_)
  subst e
  cases V
  refine wpAny_truthy_bool ?_
  cases b with
  | true => exact ⟨_, σ₁, Z₁, hz, .bool _, S₁, q⟩
  | false => exact wpAny_mono (q A cn L a cd h₀ Z₁ m s₁ P S₁) (fun _ _ q => q.up hz) fun _ _ x => x
/-- a value that is decided by tests -/
theorem ew_notv {e : Expr} (h : EW c k cs e ml σ (KBool fun b σ₁ => Q (.bool (!b)) σ₁)) : EW c k cs (.UnaryOp .Not e pos) ml σ Q := by
  intro A cn L a cd h₀ Z m s P S
  refine UnaryOp_ (mono_post (α := Unit) (h A cn L a cd h₀ Z m s P S) fun x σ₁ Z₁ v s₁ hz V S₁ ⟨b, e, q⟩ => ?_)
  subst e
  cases V
  exact not_of (wpAny_truthy_bool ⟨_, σ₁, Z₁, hz, .bool _, S₁, q⟩)

/-- strs -/
theorem ow_istr {a b : Str} (hs : a.length + b.length ≤ sizeLine) (q : Q (.str (a ++ b)) σ) : OW c k (inplaceW .Add) [.str a, .str b] σ Q :=
  ow_pure2 q fun A Z s v w R V W h => by cases V; cases W; exact PyProof.Rows.iadd_str (fun t tk => h _ _ (.str _ _)) hs
theorem ow_stridx {x : Str} {i : Int} {d : Nat} (h0 : 0 ≤ i) (h1 : i < 2 ^ 62) (hd : x.cps[i.toNat]? = some d) (q : Q (.str ⟨#[d]⟩) σ) : OW c k getItemW [.str x, .int i] σ Q :=
  ow_pure2 q fun A Z s v w R V W h => by
    cases V; cases W
    have hlt : i.toNat < x.cps.size := by rw [Array.getElem?_eq_some_iff] at hd; exact hd.1
    refine PyProof.Rows.getItem_str (c := d) (by simp; lia) ?_ (h _ _ (.str _ _))
    have : PySem.seqIndex? i x.length = some i.toNat := by
      unfold PySem.seqIndex? Str.length
      simp
      lia
    rw [this]
    exact hd
theorem mi_find {x : Str} : MethIs c k (.str x) σ "find" (.builtin "str.find") := by
  intro A cn cs L a cd h₀ Z m ml s v pl R P S V q
  cases V
  exact GM.find (q s S)
theorem cw_find {x y : Str} (q : Q (.int (Txt.find x y)) σ) : CW c k (.builtin "str.find") [.str x, .str y] σ Q :=
  ow_pure2 q fun A Z s v w R V W h => by cases V; cases W; exact SC.find (h _ _ (.int _ _))

/-- tuples one behind another -/
theorem ow_addtup {xs ys : List MV} (hl : xs.length + ys.length ≤ 1000) (hx : xs ≠ []) (hy : ys ≠ []) (q : Q (.tup (xs ++ ys)) σ) : OW c k (fun vs => binaryOp .Add (vs.getD 0 .none) (vs.getD 1 .none)) [.tup xs, .tup ys] σ Q := by
  intro A cn cs L a cd h₀ Z m ml s vs P S V
  obtain ⟨v₁, v₂, rfl, V₁, V₂⟩ := vrs2 V
  cases V₁ with
  | @tup t1 _ ws1 n1 hz1 W1 =>
  cases V₂ with
  | @tup t2 _ ws2 n2 hz2 W2 =>
    obtain ⟨news, N, C⟩ := S.led
    have l1 := W1.length
    have l2 := W2.length
    refine add_tuples S.F N ⟨_, (S.atZ hz1).1, rfl, n1, rfl⟩ ⟨_, (S.atZ hz2).1, rfl, n2, rfl⟩ (fun e => absurd (by rw [e] at l1; exact List.length_eq_zero_iff.mp l1.symm) hx) (fun _ e => absurd (by rw [e] at l2; exact List.length_eq_zero_iff.mp l2.symm) hy) (fun _ _ h' F' N' => ?_) (by rw [l1, l2, sizeLine_eq]; lia)
    have lt : ∀ p ∈ news, p.1 < s.heap.objs.size := fun p hp => Heap.lt_size (N p hp).1
    obtain ⟨hz₂, S₂⟩ := S.pushZ C s.toks F' N' lt
    exact ⟨.tup (xs ++ ys), σ, _, hz₂, .tup (n := 0) (updZ_same ..) (VRs.mono hz₂ (W1.append W2)), S₂, q⟩

/-- displays that are never changed -/
noncomputable abbrev KFl (Q : MV → MH → Prop) : List MV → MH → Prop := fun vs σ₁ => vs.length ≤ 100 ∧ Q (.flist vs) σ₁
theorem ew_flist {es : List Expr} (h : EWs c k cs es ml σ (KFl Q)) : EW c k cs (.List es pos) ml σ Q := by
  intro A cn L a cd h₀ Z m s P S
  refine List_ (wpAny_mono (h A cn L a cd h₀ Z m s pos P S) (fun vs s₁ ⟨xs, σ₁, Z₁, hz, V, S₁, hl, q⟩ => ?_) fun _ _ x => x)
  obtain ⟨news, N, C⟩ := S₁.led
  refine newList_K S₁.F N (fun l h' F' N' lt => ?_) (by rw [V.length, sizeLine_eq]; lia)
  obtain ⟨hz₂, S₂⟩ := S₁.pushZ C s₁.toks F' N' lt
  exact ⟨.flist xs, σ₁, _, hz.trans hz₂, .flist (updZ_same ..) (VRs.mono hz₂ V), S₂, q⟩
end

theorem ints_vrs {Z : Zm} {vs : List Value} {ns : List Int} (h : IntsAre vs ns) : VRs Z (ns.map .int) vs := by
  induction h with
  | nil => exact .nil
  | cons _ _ _ ih => exact .cons (.int _ _) ih
theorem ints_vrs_len {vs : List Value} {ns : List Int} (h : IntsAre vs ns) : vs.length = ns.length := by
  have := (ints_vrs (Z := fun _ => none) h).length
  simpa using this
/-- a made object is frozen -/
theorem Gh.finst {c : Cx} {Q : MV → MH → Prop} {x d C : Addr} {fs : List (Str × MV)} {σ : MH} (h1 : σ x = some (.inst C d)) (h2 : σ d = some (.ns fs)) (q : Gh c Q (.finst C fs) (delH (delH σ x) d)) : Gh c Q (.ref x) σ := by
  intro h₀ L Z m ml s v V S
  cases V
  have hne : d ≠ x := fun e => by subst e; rw [h1] at h2; cases h2
  obtain ⟨ob, ho, hz, S'⟩ := S.freeze h1
  cases ho
  obtain ⟨ob2, ho2, hz2, S2⟩ := S'.freeze (a := d) (o := .ns fs) (by rw [delH_ne hne]; exact h2)
  cases ho2 with
  | ns hv =>
    refine (q _ _ _ _ _ _ _ (.finst (hz2 _ _ (updZ_same ..)) (updZ_same ..) (VRf.mono hz2 hv)) S2).up (hz.trans hz2)

section
variable {c : Cx} {k : Nat} {cs : Scope} {ml : Loc} {σ : MH} {Q : MV → MH → Prop} {pos : Pos} {R : Fl → Loc → MH → Prop}
/-- the making of an object that is never changed behind its __init__ -/
theorem cw_classF {C fI : Addr} {names : List Str} {meths : List (Str × Addr)} {as : List MV} (D : Cdef c C names meths) (hi : (("__init__" : Str), fI) ∈ meths)
    (h : ∀ x dx, σ x = none → σ dx = none → x ≠ dx → FW c k (.ref fI) (.ref x :: as) (updH (updH σ dx (.ns [])) x (.inst C dx)) fun v σ' => v = .none ∧ ∃ fs, σ' = updH (updH σ dx (.ns fs)) x (.inst C dx) ∧ Q (.finst C fs) σ) : CW c (k + 1) (.ref C) as σ Q := by
  refine OW.ghost (cw_class D hi fun x dx hx hd hne => FW.mono (h x dx hx hd hne) fun v σ' ⟨e, fs, e', q⟩ => ⟨e, ?_⟩)
  subst e'
  have hne' : dx ≠ x := fun e => hne e.symm
  refine Gh.finst (d := dx) (fs := fs) (updH_same ..) (by rw [updH_ne hne']; exact updH_same ..) ?_
  have : delH (delH (updH (updH σ dx (.ns fs)) x (.inst C dx)) x) dx = σ := by
    funext b
    simp only [delH, updH]
    by_cases h1 : b = dx
    · subst h1; simp [hd]
    · by_cases h2 : b = x
      · subst h2; simp [h1, hx]
      · simp [h1, h2]
  rw [this]
  exact Gh.now q

/-- the law's own list, cut -/
theorem ew_sliceold {v u : Expr} {p : Pos} {b : Nat} (h : EW c k cs v ml σ fun ov σ₁ => ov = .ref c.sl ∧ EW c k cs u ml σ₁ fun uv σ₂ => uv = .int b ∧ c.sn.length ≤ 1000 ∧ ∀ l, σ₂ l = none → Q (.ref l) (updH σ₂ l (.list ((c.sn.take b).map .int))))
    (ht : ∀ o r, letTemporaryGo v o r = pure () := by intro _ _; rfl) : EW c k cs (.Subscript v (.Slice none (some u) none p) pos) ml σ Q := by
  intro A cn L a cd h₀ Z m s P S
  refine wpAny_Subscript_list_slice (mono_post (α := Unit) (h A cn L a cd h₀ Z m s P S) fun ov σ₁ Z₁ v₁ s₁ hz V₁ S₁ ⟨e1, q₁⟩ => ?_) ht
  subst e1
  cases V₁
  refine wpAny_of_eq (a := Value.none) (by first | rfl | exact evalPart_none ..) ?_
  show wpAny c.M A (eval u (envOf cn cs L a cd)) _ _ s₁
  refine mono_post (α := Unit) (q₁ A cn L a cd h₀ Z₁ m s₁ P S₁) fun uv σ₂ Z₂ v₂ s₂ hz₂ V₂ S₂ ⟨e2, hlen, q₂⟩ => ?_
  subst e2
  cases V₂ with
  | int _ t =>
  obtain ⟨ol, hov⟩ := P.old
  have hl2 : s₂.heap.IsList c.sl c.sv.toArray := by
    obtain ⟨o, ho, r⟩ := ol
    exact ⟨o, S₂.F.keep _ _ ho, r⟩
  have hvl : c.sv.length = c.sn.length := by rw [ints_vrs_len hov]
  refine ⟨c.sl, c.sv.toArray, none, some (b : Int), rfl, hl2, by rw [List.size_toArray, hvl, sizeLine_eq]; lia, .none, .int _ _, ?_⟩
  have S₃ := S₂.grown s₂.toks { cls := .type "slice", data := .fields #[.none, .int b t, .none] }
  have hi := slice_ints_uptoW hov (y := (b : Int)) (by lia)
  have V3 : VRs Z₂ ((c.sn.take b).map .int) (slicePick c.sv.toArray none (some (b : Int)) none).toList := ints_vrs (by simpa using hi)
  obtain ⟨hn, S₄⟩ := S₃.born s₂.toks (ob := { cls := .type "list", data := .seq (slicePick c.sv.toArray none (some (b : Int)) none) }) (o := .list ((c.sn.take b).map .int)) rfl (by simpa using OR.list (c := c) (n := 0) V3) trivial
  have hsz : (s₂.heap.push { cls := .type "slice", data := .fields #[.none, .int b t, .none] }).objs.size = s₂.heap.objs.size + 1 := Heap.size_push ..
  rw [← hsz]
  exact ⟨_, _, Z₂, hz.trans hz₂, .ref _, S₄, q₂ _ hn⟩
end

theorem wp_noE {α : Type} {M : Model} {A : Around} {t : Sem α} {Q : α → Shared → Prop} {E : Value → Shared → Prop} {s : Shared} (h : wpAny M A t Q (fun _ _ => False) s) : wpAny M A t Q E s := wpAny_mono h (fun _ _ q => q) fun _ _ x => x.elim
theorem NsO.at {h : Heap} {a : Addr} {o : Obj} {m : Str → Option Value} (x : NsO o m) (e : h.get? a = some o) : h.Ns a m := let ⟨es, ep, r⟩ := x; ⟨o, es, ep, e, r⟩
theorem nsO_of {h : Heap} {a : Addr} {m : Str → Option Value} (x : h.Ns a m) : ∃ o, h.get? a = some o ∧ NsO o m := let ⟨o, es, ep, e, r⟩ := x; ⟨o, e, es, ep, r⟩
theorem LR.set {Z : Zm} {ml : Loc} {m : Str → Option Value} (h : LR Z ml m) {x : Str} {mv : MV} {v : Value} (V : VR Z mv v) : LR Z (setM x mv ml) (fun y => if y = x then some v else m y) := by
  intro y w e
  rw [getM_setM] at e
  by_cases hy : y = x
  · rw [if_pos hy] at e
    cases e
    exact ⟨v, if_pos hy, V⟩
  · rw [if_neg hy] at e
    obtain ⟨cv, a, b⟩ := h y w e
    exact ⟨cv, (if_neg hy).trans a, b⟩

section
variable {c : Cx} {k : Nat} {cs : Scope} {ml : Loc} {σ : MH} {Q : MV → MH → Prop} {pos : Pos}

noncomputable def compσ (σ : MH) (it D C : Addr) (ms : List MV) (i : Nat) (ys : List MV) (mlc : Loc) : MH := updH (updH (updH σ it (.liter (.flist ms) i)) D (.list ys)) C (.loc mlc)
section
variable {σ : MH} {it D C : Addr} {ms ys : List MV} {i : Nat} {mlc : Loc}
theorem comp_it (hCit : C ≠ it) (hDit : D ≠ it) : compσ σ it D C ms i ys mlc it = some (.liter (.flist ms) i) := by
  unfold compσ; rw [updH_ne (Ne.symm hCit), updH_ne (Ne.symm hDit)]; exact updH_same ..
theorem comp_C : compσ σ it D C ms i ys mlc C = some (.loc mlc) := updH_same ..
theorem comp_D (hCD : C ≠ D) : compσ σ it D C ms i ys mlc D = some (.list ys) := by
  unfold compσ; rw [updH_ne (Ne.symm hCD)]; exact updH_same ..
theorem updH_over {σ : MH} {d : Addr} {o o' : MO} : updH (updH σ d o) d o' = updH σ d o' := by funext b; simp only [updH]; split <;> rfl
theorem updH_swap {σ : MH} {d e : Addr} {o o' : MO} (h : d ≠ e) : updH (updH σ d o) e o' = updH (updH σ e o') d o := by
  funext b; simp only [updH]
  by_cases h1 : b = e
  · subst h1; simp [Ne.symm h]
  · simp [h1]
theorem comp_setC {m' : Loc} : updH (compσ σ it D C ms i ys mlc) C (.loc m') = compσ σ it D C ms i ys m' := updH_over
theorem comp_setD (hCD : C ≠ D) {y' : List MV} : updH (compσ σ it D C ms i ys mlc) D (.list y') = compσ σ it D C ms i y' mlc := by
  unfold compσ; rw [updH_swap hCD, updH_over]
theorem comp_incr (hCit : C ≠ it) (hDit : D ≠ it) {i' : Nat} : updH (compσ σ it D C ms i ys mlc) it (.liter (.flist ms) i') = compσ σ it D C ms i' ys mlc := by
  unfold compσ; rw [updH_swap hCit, updH_swap hDit, updH_over]
theorem comp_sup (hit : σ it = none) (hD : σ D = none) (hC : σ C = none) {b : Addr} {o : MO} (e : σ b = some o) : compσ σ it D C ms i ys mlc b = some o := by
  unfold compσ
  have b1 : b ≠ C := fun x => by rw [x, hC] at e; cases e
  have b2 : b ≠ D := fun x => by rw [x, hD] at e; cases e
  have b3 : b ≠ it := fun x => by rw [x, hit] at e; cases e
  rw [updH_ne b1, updH_ne b2, updH_ne b3]
  exact e
theorem comp_dC (hCit : C ≠ it) : delH (compσ σ it D C ms i ys mlc) it C = some (.loc mlc) := by rw [delH_ne hCit]; exact comp_C
theorem comp_dD (hCD : C ≠ D) (hDit : D ≠ it) : delH (delH (compσ σ it D C ms i ys mlc) it) C D = some (.list ys) := by rw [delH_ne (Ne.symm hCD), delH_ne hDit]; exact comp_D hCD
theorem delH_upd {σ : MH} {d : Addr} {o : MO} (h : σ d = none) : delH (updH σ d o) d = σ := by
  funext b; simp only [delH, updH]
  by_cases h1 : b = d
  · subst h1; simp [h]
  · simp [h1]
theorem delH_swap {σ : MH} {d e : Addr} : delH (delH σ d) e = delH (delH σ e) d := by
  funext b; simp only [delH]
  split <;> split <;> rfl
theorem comp_clear (hit : σ it = none) (hD : σ D = none) (hC : σ C = none) (hCD : C ≠ D) (hCit : C ≠ it) (hDit : D ≠ it) : delH (delH (delH (compσ σ it D C ms i ys mlc) it) C) D = σ := by
  unfold compσ
  rw [delH_swap (d := it), delH_upd (by rw [updH_ne hCD, updH_ne hCit]; exact hC), delH_swap (d := it), delH_upd (by rw [updH_ne hDit]; exact hD), delH_upd hit]
end

theorem ew_comp {iter : Expr} {x g : Str} {px gp xp cp : Pos} {scope : Scope} {f : Addr}
    (hg : nsIn c.K mainGlobals g = some (some (.ref f))) (hkeep : keepIn c.K (.ref f) = true)
    (h : EW c k cs iter ml σ fun ov σ₁ => ∃ ms rs : List MV, ov = .flist ms ∧ rs.length = ms.length ∧ ms.length ≤ 1000 ∧
      (∀ (i : Nat) (m r : MV), ms[i]? = some m → rs[i]? = some r → ∀ σ₂ : MH, (∀ a o, σ₁ a = some o → σ₂ a = some o) → ∀ QQ : MV → MH → Prop, QQ r σ₂ → CW c k (.ref f) [m] σ₂ QQ) ∧ Q (.flist rs) σ₁)
    (hfree : scope.names.all (fun y => y.2 != .free && y.2 != .cell && (y.2 != .local || scope.names.lookup y.1 == some .local)) = true := by rfl) (hkind : scope.kind = .function := by rfl)
    (hx : scope.names.lookup x = some .local := by kernel_rfl) (hgl : scope.names.lookup g = some .globalImplicit := by kernel_rfl)
    (hd : (x == ("__debug__" : Str)) = false := by kernel_rfl) (hd2 : (g == ("__debug__" : Str)) = false := by kernel_rfl)
    (hs : ∀ env y, foldedSetIterable iter env y = pure y := by intro _ _; rfl) :
    EW c k cs (.ListComp (.Call (.Name g gp) [.Name x xp] [] cp) [⟨.Name x px, iter, [], 0⟩] scope pos) ml σ Q := by
  intro A cn L a cd h₀ Z m s P S
  have hall := List.all_eq_true.mp hfree
  have h1 : ∀ y ∈ scope.names, y.2 ≠ .free := fun y hy => by have := hall y hy; simp at this; exact this.1.1
  have h2 : ∀ y ∈ scope.names, y.2 ≠ .cell := fun y hy => by have := hall y hy; simp at this; exact this.1.2
  have h3 : ∀ y ∈ scope.names, y.2 = .local → scope.names.lookup y.1 = some .local := fun y hy e => by have := hall y hy; simp [e] at this; exact this
  refine wpAny_ListComp h1 hkind h3 (mono_post (α := Unit) (h A cn L a cd h₀ Z m s P S) fun ov σ₁ Z₁ v s₁ hz V S₁ ⟨ms, rs, e, hlen, hms, hf, q⟩ => ?_) (hs _)
  subst e
  cases V with
  | @flist ax _ ws n hZ W =>
  refine wpAny_pyIter_list ⟨_, (S₁.atZ hZ).1, rfl, n, rfl⟩ ?_
  obtain ⟨hit, S₂⟩ := S₁.born (o := .liter (.flist ms) 0) s₁.toks (ob := { cls := .type "list_iterator", data := .fields #[.ref ax, .int 0 0] }) rfl (.liter (.flist hZ W) rfl rfl) trivial
  generalize s₁.heap.objs.size = it at hit S₂ ⊢
  generalize hs2 : s₁.heap.push { cls := .type "list_iterator", data := .fields #[.ref ax, .int 0 0] } = hp2 at S₂ ⊢
  refine wpAny_newObj_type ?_ (Nat.le_of_ble_eq_true rfl)
  obtain ⟨hD, S₃⟩ := S₂.born (o := .list []) s₁.toks (ob := { cls := .type "list", data := .seq ([] : List Value).toArray }) rfl (.list (n := 0) .nil) trivial
  dsimp only at hD S₃ ⊢
  generalize hp2.objs.size = D at hD S₃ ⊢
  generalize hs3 : hp2.push { cls := .type "list", data := .seq ([] : List Value).toArray } = hp3 at S₃ ⊢
  have hDit : D ≠ it := fun e => by rw [e, updH_same] at hD; cases hD
  have hD₁ : σ₁ D = none := by rw [updH_ne hDit] at hD; exact hD
  refine wpAny_newFunctionEnv h2 (by intro y hy; simp at hy) (fun h4 hns4 hsb4 => ?_) hkind
  obtain ⟨hC, S₄⟩ := S₃.born (o := .loc []) s₁.toks (ob := { cls := .type "dict", data := .dict #[] }) rfl
    (.loc (m := fun _ => none) ⟨#[], 0, rfl, (by intro e he; simp at he), fun _ => by simp [nsFind, findBy]⟩ (fun y w e => by simp [getM] at e)) trivial
  dsimp only at hC S₄ hns4 hsb4 ⊢
  generalize hp3.objs.size = C at hC S₄ hns4 hsb4 ⊢
  have hCD : C ≠ D := fun e => by rw [e, updH_same] at hC; cases hC
  have hCit : C ≠ it := fun e => by rw [updH_ne hCD, e, updH_same] at hC; cases hC
  have hC₁ : σ₁ C = none := by rw [updH_ne hCD, updH_ne hCit] at hC; exact hC
  obtain ⟨o4, ho4, hn4⟩ := nsO_of hns4
  have S₅ := S₄.change (s₁.toks + ([] : List (Str × Value)).length) (updH_same ..) hsb4 ho4 (.loc hn4 (ml := []) (fun y w e => by simp [getM] at e)) (fun z => z)
  have e5 : updH (updH (updH (updH σ₁ it (.liter (.flist ms) 0)) D (.list [])) C (.loc [])) C (.loc []) = compσ σ₁ it D C ms 0 (rs.take 0) [] := comp_setC
  rw [e5] at S₅
  clear hn4 ho4 hns4 hsb4 S₄ S₃ S₂ e5
  have fin : ∀ (Zi : Zm) (mlc : Loc) (s' : Shared), Zsub Z₁ Zi → SR c h₀ L Zi m ml (delH (compσ σ₁ it D C ms ms.length rs mlc) it) s' →
      ∃ mm, s'.heap.Ns C mm ∧ ∀ h', Heap.SameBut C s'.heap h' → Post c h₀ L Z m ml Q (.ref D) { s' with heap := h' } := by
    intro Zi mlc s' hzi Si
    obtain ⟨ob, ho, hg', _⟩ := Si.at (comp_dC hCit)
    cases ho with
    | loc hn hl =>
      refine ⟨_, hn.at hg', fun h' hs' => ?_⟩
      have Sj := Si.drop s'.toks (comp_dC hCit) hs'.extBut
      obtain ⟨ob2, ho2, hz2, Sk⟩ := Sj.freeze (comp_dD hCD hDit)
      cases ho2 with
      | list W2 =>
        rw [comp_clear hit hD₁ hC₁ hCD hCit hDit] at Sk
        exact ⟨.flist rs, σ₁, _, (hz.trans hzi).trans hz2, .flist (updZ_same ..) (VRs.mono hz2 W2), Sk, q⟩
  have loop : ∀ s₂ : Shared, SR c h₀ L Z₁ m ml (compσ σ₁ it D C ms 0 (rs.take 0) []) s₂ →
      codeAny c.M A (.compLoop (.ListComp (.Call (.Name g gp) [.Name x xp] [] cp) [⟨.Name x px, iter, [], 0⟩] scope pos) 0 (.ref it) (.ref D) (compEnv scope C (envOf cn cs L a cd)))
        (fun r s' => ∃ m', s'.heap.Ns C m' ∧ ∀ h', Heap.SameBut C s'.heap h' →
          match r with | .ok _ => Post c h₀ L Z m ml Q (.ref D) { s' with heap := h' } | .error x => wpAny c.M A (passOn "comprehension.variables-let-go" x (compEnv scope C (envOf cn cs L a cd))) (Post c h₀ L Z m ml Q) (fun _ _ => False) { s' with heap := h' }) s₂ := by
    intro s₂ S6
    refine codeAny_compLoop_list (fun n s' => ∃ i Zi mlc, n = ms.length - i ∧ i ≤ ms.length ∧ Zsub Z₁ Zi ∧ SR c h₀ L Zi m ml (compσ σ₁ it D C ms i (rs.take i) mlc) s') ?_ ms.length ⟨0, Z₁, [], rfl, Nat.zero_le _, .refl, S6⟩
    rintro n s' ⟨i, Zi, mlc, rfl, hi, hzi, Si⟩
    by_cases hlt : i < ms.length
    · have hm : ms[i]? = some ms[i] := List.getElem?_eq_getElem hlt
      have hr : rs[i]? = some (rs[i]'(by lia)) := List.getElem?_eq_getElem (by lia)
      refine wp_noE (nx_list (c := c) (comp_it hCit hDit) la_flist hm k A cn cs L a cd h₀ Zi m ml s' _ P Si fun s3 S3 v V => ?_)
      rw [comp_incr hCit hDit] at S3
      obtain ⟨ob, ho, hgC, _⟩ := S3.at comp_C
      cases ho with
      | @loc _ mC _ hnC hlC =>
      refine wp_noE (wpAny_assign_Name (wpAny_storeName_local (env := compEnv scope C (envOf cn cs L a cd)) hx (hnC.at hgC) (fun h5 hn5 hs5 => ?_) (by show (scope.kind == .class || (scope.kind == .module && _)) = false; rw [hkind]; rfl)))
      obtain ⟨o5, ho5, hno5⟩ := nsO_of hn5
      have S4 := S3.change s3.toks comp_C hs5 ho5 (.loc hno5 (hlC.set V (x := x))) (fun z => z)
      rw [comp_setC] at S4
      have hcall := hf i ms[i] _ hm hr _ (fun b o e => comp_sup hit hD₁ hC₁ e) (fun r σ' => r = rs[i]'(by lia) ∧ σ' = compσ σ₁ it D C ms (i + 1) (rs.take i) (setM x ms[i] mlc)) ⟨rfl, rfl⟩
      show wpAny c.M A (do callWith cp (← eval (.Name g gp) (compEnv scope C (envOf cn cs L a cd))) [] (backTo cp (starEach [.Name x xp] (compEnv scope C (envOf cn cs L a cd)))) []) _ _ _
      refine wpAny_bind (nameG_K S4.F P.kin (topRead_of P.top) hg ?_ rfl hkind hgl hd2)
      refine callWith_of (P := c.K.In) (by rfl) (fun h X => keeps_K hkeep h X) ?_
      refine wp_noE (evalArgs_w (by rfl) ?_)
      show wpAny c.M A (do let v ← eval (.Name x xp) (compEnv scope C (envOf cn cs L a cd)); let here ← pure [v]; return here ++ (← holding here (spliced (backTo cp (starEach [] (compEnv scope C (envOf cn cs L a cd))))))) _ _ _
      refine wpAny_bind (wpAny_Name (wpAny_loadName_local hkind hx hn5 (if_pos rfl) ?_) hd)
      refine wpAny_bind (wpAny_pure (wpAny_bind (wpAny_holding (wpAny_pure (wpAny_pure ⟨P.kin.keeps S4.F.keep, ?_⟩)))))
      refine wp_noE (wpAny_mono (hcall A cn cs L a cd h₀ Zi m ml _ [v] P (S4.toks _) (.cons V .nil)) (fun y s5 ⟨mv, σ5, Z5, hz5, V5, S5, e9, e10⟩ => ?_) fun _ _ x => x)
      subst e9; subst e10
      have hσD : compσ σ₁ it D C ms (i + 1) (rs.take i) (setM x ms[i] mlc) D = some (.list (rs.take i)) := comp_D hCD
      have happ := cw_append (c := c) (k := k) (x := rs[i]'(by lia)) (Q := fun r σ' => σ' = compσ σ₁ it D C ms (i + 1) (rs.take (i + 1)) (setM x ms[i] mlc)) hσD (by rw [List.length_take]; lia) (by rw [comp_setD hCD, List.take_add_one, hr]; rfl)
      refine wp_noE (wpAny_mono (happ A cn cs L a cd h₀ Z5 m ml s5 [.ref D, y] P S5 (.cons (.ref D) (.cons V5 .nil))) (fun _ s6 ⟨mv, σ6, Z6, hz6, V6, S6, e11⟩ => ?_) fun _ _ x => x)
      subst e11
      exact ⟨ms.length - (i + 1), by lia, i + 1, Z6, _, rfl, hlt, (hzi.trans hz5).trans hz6, S6⟩
    · have e : i = ms.length := by lia
      subst e
      refine wp_noE (nx_listend (c := c) (comp_it hCit hDit) la_flist (Nat.le_refl _) k A cn cs L a cd h₀ Zi m ml s' _ P Si fun s3 S3 => ?_)
      rw [List.take_of_length_le (by lia)] at S3
      exact fin Zi mlc s3 hzi S3
  obtain ⟨ob, ho, hg', _⟩ := S₅.at (comp_it hCit hDit)
  cases ho with
  | liter V hc hd' => exact codeAny_compStart_list (loop _ S₅) (wpAny_pyIter_listiter ⟨_, hg', hc, hd'⟩ (loop _ S₅))
end

/-- the program's parts, by their places -/
noncomputable def topAt (i : Nat) : Stmt := PySem.Challenge.pw_nu0352_01.main.body.getD i (.Pass ⟨0,0,0,0⟩)
noncomputable def fBody : Stmt → List Stmt
  | .FunctionDef _ _ body _ _ _ _ _ _ _ => body
  | _ => []
noncomputable def fScope : Stmt → Scope
  | .FunctionDef _ _ _ _ _ _ sc _ _ _ => sc
  | _ => { kind := .module, names := [], isGenerator := false, isCoroutine := false, more := [] }
noncomputable def cBody : Stmt → List Stmt
  | .ClassDef _ _ _ body _ _ _ _ _ _ _ => body
  | _ => []
noncomputable def metAt (i j : Nat) : Stmt := (cBody (topAt i)).getD j (.Pass ⟨0,0,0,0⟩)


theorem ofS_inj (a b : String) : (Str.ofString a = Str.ofString b) = (a = b) := by
  apply propext
  constructor
  · intro h
    rw [Str.ofString_eq_toList, Str.ofString_eq_toList] at h
    have h1 := congrArg (fun s => s.cps.toList) h
    simp only at h1
    have h2 : a.toList = b.toList := by
      have inj : ∀ x y : Char, x.toNat = y.toNat → x = y := fun x y e => by
        apply Char.ext; apply UInt32.toNat.inj; exact e
      generalize a.toList = p at h1
      generalize b.toList = q at h1
      clear h
      induction p generalizing q with
      | nil => cases q with | nil => rfl | cons _ _ => simp at h1
      | cons x p ih =>
        cases q with
        | nil => simp at h1
        | cons y q =>
          simp only [List.map_cons, List.cons.injEq] at h1
          rw [inj _ _ h1.1, ih q h1.2]
    exact String.ext h2
  · rintro rfl; rfl

noncomputable def asStrs : List MV → Option (List Str)
  | [] => some []
  | .str s :: l => (asStrs l).map (s :: ·)
  | _ => none
theorem asStrs_map {l : List MV} {ss : List Str} (h : asStrs l = some ss) : l = ss.map .str := by
  induction l generalizing ss with
  | nil => cases h; rfl
  | cons m l ih =>
    cases m <;> simp [asStrs] at h
    obtain ⟨t, ht, rfl⟩ := h
    rw [ih ht]; rfl

/-- a name is sought out of the proof: Hint is true, its proof is thrown away -/
noncomputable def Hint (_ : Prop) : Prop := True
theorem eqH {α : Sort _} {a b : α} (_hint : Hint (a = b)) (h : a = b) : a = b := h
noncomputable def memS (x : Str) : List Str → Bool
  | [] => false
  | y :: r => @Bool.rec (fun _ => Bool) (memS x r) true (Fast.sEq x y)
theorem memS_iff {x : Str} : ∀ {l : List Str}, memS x l = true ↔ x ∈ l
  | [] => by simp [memS]
  | y :: r => by
    have ih := memS_iff (x := x) (l := r)
    rw [List.mem_cons, ← Fast.sEq_iff (a := x) (b := y)]
    show @Bool.rec (fun _ => Bool) (memS x r) true (Fast.sEq x y) = true ↔ _
    cases Fast.sEq x y with
    | true => simp
    | false => simpa using ih
theorem sNe {a b : Str} (h : Fast.sEq a b = false) : ¬ a = b := fun e => by rw [Fast.sEq_iff.mpr e] at h; cases h
theorem sMem {x : Str} {l : List Str} (h : memS x l = true) : x ∈ l := memS_iff.mp h
theorem sNmem {x : Str} {l : List Str} (h : memS x l = false) : ¬ x ∈ l := fun e => by rw [memS_iff.mpr e] at h; cases h
noncomputable def kindS (x : Str) : List (Str × NameKind) → Option NameKind
  | [] => none
  | (y, v) :: r => @ite _ (x = y) (Fast.sDec x y) (some v) (kindS x r)
theorem kindS_eq (x : Str) : ∀ l : List (Str × NameKind), kindS x l = l.lookup x
  | [] => rfl
  | (y, v) :: r => by
    rw [List.lookup_cons, ← kindS_eq x r, kindS]
    by_cases h : x = y
    · subst h; simp
    · rw [if_neg h, show (x == y) = false from beq_eq_false_iff_ne.mpr h]
noncomputable def lookL (cs : Scope) (x : Str) (ml : Loc) : Option MV := match kindS x cs.names with
  | some .local => @Bool.rec (fun _ => Option MV) (getM x ml) none (Fast.sEq x "__debug__")
  | _ => none
set_option tactic.hygienic true in
theorem lookL_is {cs : Scope} {x : Str} {ml : Loc} {v : MV} (h : lookL cs x ml = some v) : getM x ml = some v ∧ cs.names.lookup x = some .local ∧ (x == ("__debug__" : Str)) = false := by
  unfold lookL at h
  rw [kindS_eq] at h
  split at h
  · rename_i hk
    cases e : Fast.sEq x "__debug__" with
    | true => rw [e] at h; cases h
    | false => rw [e] at h; exact ⟨h, hk, beq_eq_false_iff_ne.mpr (sNe e)⟩
  · cases h

section
variable {c : Cx} {k : Nat} {cs : Scope} {ml : Loc} {σ : MH} {Q : MV → MH → Prop} {pos : Pos} {R : Fl → Loc → MH → Prop}
theorem ew_localH {x : Str} {v : MV} (_hint : Hint (getM x ml = some v)) (h : lookL cs x ml = some v) (q : Q v σ) : EW c k cs (.Name x pos) ml σ Q :=
  have z := lookL_is h
  ew_local z.1 q z.2.1 z.2.2
/-- arguments that are names of the frame or constants, all at once -/
noncomputable def evA (cs : Scope) (ml : Loc) : Expr → Option MV
  | .Name x _ => lookL cs x ml
  | .Constant (.int i) _ _ => some (.int i)
  | .Constant (.str x) _ _ => some (.str x)
  | .Constant .none _ _ => some .none
  | .Constant (.bool b) _ _ => some (.bool b)
  | _ => none
noncomputable def evPs (cs : Scope) (ml : Loc) : List Expr → Option (List MV)
  | [] => some []
  | e :: es => match evA cs ml e with
    | none => none
    | some v => match evPs cs ml es with
      | none => none
      | some l => some (v :: l)
noncomputable def gA (ml : Loc) : Expr → Option MV
  | .Name x _ => getM x ml
  | .Constant (.int i) _ _ => some (.int i)
  | .Constant (.str x) _ _ => some (.str x)
  | .Constant .none _ _ => some .none
  | .Constant (.bool b) _ _ => some (.bool b)
  | _ => none
noncomputable def gPs (ml : Loc) : List Expr → Option (List MV)
  | [] => some []
  | e :: es => match gA ml e with
    | none => none
    | some v => match gPs ml es with
      | none => none
      | some l => some (v :: l)
theorem ev_atom {e : Expr} {v : MV} (h : evA cs ml e = some v) (q : Q v σ) : EW c k cs e ml σ Q ∧ notStar e = true := by
  unfold evA at h
  split at h
  · exact ⟨ew_localH trivial h q, rfl⟩
  · cases h; exact ⟨ew_int q, rfl⟩
  · cases h; exact ⟨ew_str q, rfl⟩
  · cases h; exact ⟨ew_none q, rfl⟩
  · cases h; exact ⟨ew_bool q, rfl⟩
  · cases h
set_option tactic.hygienic true in
theorem ews_pureH {es : List Expr} {vs : List MV} {Q : List MV → MH → Prop} (_hint : Hint (gPs ml es = some vs)) (h : evPs cs ml es = some vs) (q : Q vs σ) : EWs c k cs es ml σ Q := by
  induction es generalizing vs Q with
  | nil => cases h; exact ews_nil q
  | cons e es ih =>
    unfold evPs at h
    split at h
    · cases h
    · rename_i v hv
      split at h
      · cases h
      · rename_i l hl
        cases h
        obtain ⟨a, b⟩ := ev_atom (c := c) (k := k) (σ := σ) (Q := fun x σ₁ => EWs c k cs es ml σ₁ fun xs σ₂ => Q (x :: xs) σ₂) hv (ih trivial hl q)
        exact ews_cons a b
theorem s_augnameH {x : Str} {p : Pos} {op : Operator} {e : Expr} {v₀ : MV} (_hint : Hint (getM x ml = some v₀)) (hv : lookL cs x ml = some v₀) (h : EW c k cs e ml σ (KAug c k op x v₀ ml R)) :
    S1 c k cs (.AugAssign (.Name x p) op e pos) ml σ R :=
  have z := lookL_is hv
  s_augname z.1 h z.2.1
end

section
variable {c : Cx} {k : Nat} {cs : Scope} {ml : Loc} {σ : MH} {Q : MV → MH → Prop} {pos : Pos} {R : Fl → Loc → MH → Prop}
theorem beh_next {rest : List Stmt} (h : SW c k cs rest ml σ R) : Beh c k cs rest R .next ml σ := h
theorem beh_ret {rest : List Stmt} {v : MV} (h : R (.ret v) ml σ) : Beh c k cs rest R (.ret v) ml σ := h
theorem beh_brk {rest : List Stmt} (h : R .brk ml σ) : Beh c k cs rest R .brk ml σ := h
theorem ret_ret {v : MV} (h : Q v σ) : retP Q (.ret v) ml σ := h
theorem ret_next (h : Q .none σ) : retP Q .next ml σ := h
theorem turn_next {t : Expr} {it : Addr} {b : List Stmt} (h : FOR c k cs t it b ml σ R) : TurnE c k cs t it b R .next ml σ := h
theorem turn_brk {t : Expr} {it : Addr} {b : List Stmt} (h : R .next ml σ) : TurnE c k cs t it b R .brk ml σ := h
theorem turn_ret {t : Expr} {it : Addr} {b : List Stmt} {v : MV} (h : R (.ret v) ml σ) : TurnE c k cs t it b R (.ret v) ml σ := h
theorem len_and {l : List MV} {P : Prop} (h : Nat.ble l.length 100 = true) (q : P) : l.length ≤ 100 ∧ P := ⟨Nat.le_of_ble_eq_true h, q⟩
theorem if_t {A B : Prop} (h : A) : if true = true then A else B := h
theorem if_f {A B : Prop} (h : B) : if false = true then A else B := h
theorem if_d {p : Prop} [Decidable p] {A B : Prop} (h1 : p → A) (h2 : ¬ p → B) : if decide p = true then A else B := by
  by_cases h : p
  · simp [h, h1 h]
  · simp [h, h2 h]
theorem if_n {p : Prop} [Decidable p] {A B : Prop} (h1 : ¬ p → A) (h2 : p → B) : if (!decide p) = true then A else B := by
  by_cases h : p
  · simp [h, h2 h]
  · simp [h, h1 h]
theorem if_dt {p : Prop} [Decidable p] {A B : Prop} (h1 : p) (h : A) : if decide p = true then A else B := by simp [h1, h]
theorem if_df {p : Prop} [Decidable p] {A B : Prop} (h1 : ¬ p) (h : B) : if decide p = true then A else B := by simp [h1, h]
theorem if_nt {p : Prop} [Decidable p] {A B : Prop} (h1 : ¬ p) (h : A) : if (!decide p) = true then A else B := by simp [h1, h]
theorem if_nf {p : Prop} [Decidable p] {A B : Prop} (h1 : p) (h : B) : if (!decide p) = true then A else B := by simp [h1, h]
theorem qb_ {QB : Bool → Prop} {b : Bool} (h : QB b) : ∃ b', MV.bool b = .bool b' ∧ QB b' := ⟨b, rfl, h⟩
theorem ew_negint {i : Int} {j : Nat} {p : Pos} (q : Q (.int (-i)) σ) : EW c k cs (.UnaryOp .USub (.Constant (.int i) j p) pos) ml σ Q := ew_neg (ew_int ⟨rfl, q⟩)
theorem ow_intup' {y : Str} {l : List MV} {ss : List Str} (hl : asStrs l = some ss) (q : Q (.bool (decide (y ∈ ss))) σ) : OW c k (fun vs => compareOp .In (vs.getD 0 .none) (vs.getD 1 .none)) [.str y, .tup l] σ Q := by
  rw [asStrs_map hl]; exact ow_intup q
theorem ow_inflist' {y : Str} {l : List MV} {ss : List Str} (hl : asStrs l = some ss) (q : Q (.bool (decide (y ∈ ss))) σ) : OW c k (fun vs => compareOp .In (vs.getD 0 .none) (vs.getD 1 .none)) [.str y, .flist l] σ Q :=
  ow_inlist (by rw [← asStrs_map hl]; exact la_flist) q
theorem ow_notintup' {y : Str} {l : List MV} {ss : List Str} (hl : asStrs l = some ss) (q : Q (.bool (!decide (y ∈ ss))) σ) : OW c k (fun vs => compareOp .NotIn (vs.getD 0 .none) (vs.getD 1 .none)) [.str y, .tup l] σ Q := by
  rw [asStrs_map hl]; exact ow_notintup q
end

/-- a function of the text's top -/
structure GF (c : Cx) (i : Nat) (name qual : Str) (names : List Str) (n : Nat) (dflt : List MV) (f : Addr) : Prop where
  g : nsIn c.K mainGlobals name = some (some (.ref f))
  k : keepIn c.K (.ref f) = true
  d : Fdef c f qual (fBody (topAt i)) (fScope (topAt i)) names n dflt
/-- a method -/
structure MF (c : Cx) (i j : Nat) (qual : Str) (names : List Str) (n : Nat) (dflt : List MV) (f : Addr) : Prop where
  d : Fdef c f qual (fBody (metAt i j)) (fScope (metAt i j)) names n dflt
/-- a class -/
structure GC (c : Cx) (name : Str) (names : List Str) (meths : List (Str × Addr)) (C : Addr) : Prop where
  g : nsIn c.K mainGlobals name = some (some (.ref C))
  k : keepIn c.K (.ref C) = true
  d : Cdef c C names meths
noncomputable abbrev PW := PySem.Challenge.pw_nu0352_01
noncomputable def fName : Stmt → Str
  | .FunctionDef n _ _ _ _ _ _ _ _ _ => n
  | _ => Str.empty
noncomputable def fArgs : Stmt → Arguments
  | .FunctionDef _ a _ _ _ _ _ _ _ _ => a
  | _ => default
-- the head
noncomputable def vs (x : String) (t : Nat) : Value := .str (Str.ofString x) t
noncomputable def oT (l : List Value) : Obj := ⟨.type "tuple", none, .seq l.toArray 0, #[]⟩
noncomputable def oF (l : List Value) : Obj := ⟨.none, none, .fields l.toArray, #[]⟩
noncomputable def oM (c : String) (l : List Value) : Obj := ⟨.type c, none, .fields l.toArray, #[]⟩
noncomputable def oR (l : List (Option Value)) : Obj := ⟨.type "frame", none, .plain, l.toArray⟩
noncomputable def oD (l : List DictEntry) (n : Nat) : Obj := ⟨.type "dict", none, .dict l.toArray n, #[]⟩
noncomputable def de (P : Params) (x : String) (t : Nat) (v : Value) : DictEntry := ⟨PyData.keyHash P (Str.ofString x), .str (Str.ofString x) t, v⟩
noncomputable def oP (st : Stmt) (q : String) : Obj := ⟨.none, none, .func { name := fName st, qualname := Str.ofString q, params := fArgs st, body := .stmts (fBody st), scope := fScope st, globals := 0, closure := [], defaults := .none, kwdefaults := .none }, #[]⟩
noncomputable def oG (st : Stmt) (q : String) (d m co : Value) : Obj := ⟨.type "function", none, .func { name := fName st, qualname := Str.ofString q, params := fArgs st, body := .stmts (fBody st), scope := fScope st, globals := 3, closure := [], defaults := d, kwdefaults := .none, pyModule := m, code := co }, #[]⟩
noncomputable def oC (x qn : String) (line na fl t b nv : Nat) : Obj := oM "code" [vs x t, vs qn (t + 1), vs "/claim/cut.py" (t + 2), .int line 0, .int na 0, .int 0 0, .int 0 0, .int fl 0, .ref b, .bool true, .int 181 0, .ref (b + 1), .none, .ref (b + 2), .ref (b + 3), .ref (b + 4), .int (t + 3 + nv : Nat) 0, .int line 0, vs "/claim/cut.py" (t + 4 + nv)]
noncomputable def dO (st : Stmt) (x qn : String) (line na fl : Nat) (t b : Nat) (vars : List String) (m d : Value) : List Obj :=
  [oT [], oF [], oT (vars.zipIdx.map fun (v, i) => vs v (t + 3 + i)), oT [], oP st qn,
   oC x qn line na fl t b vars.length,
   oG st qn d m (.ref (b + 5))]
noncomputable def oY (n : String) (b m : List Value) (ns : Addr) (q : String) (l : List (Option Value)) : Obj := ⟨.type "type", none, .cls { name := Str.ofString n, bases := b, mro := m, ns := ns, qualname := Str.ofString q }, l.toArray⟩
noncomputable def cat : List (List Obj) → List Obj
  | [] => []
  | l :: r => l ++ cat r
noncomputable def evens : List Obj → List Obj
  | [] => []
  | [a] => [a]
  | a :: _ :: r => a :: evens r
noncomputable def odds : List Obj → List Obj
  | [] => []
  | [_] => []
  | _ :: b :: r => b :: odds r
noncomputable def ofL : Nat → List Obj → BT
  | 0, _ => .nil
  | _ + 1, [] => .nil
  | n + 1, a :: r => .node a (ofL n (evens r)) (ofL n (odds r))
noncomputable def o11 : Obj := oT []
noncomputable def o13 : Obj := oM "code" [vs "<module>" 182, vs "<module>" 183, vs "/claim/cut.py" 184, .int 1 0, .int 0 0, .int 0 0, .int 0 0, .int 0 0, .ref 11, .bool false, .int 181 0, .ref 12, .none, .none, .none, .none, .int 185 0, .int 1 0, vs "/claim/cut.py" 186]
noncomputable def o14 : Obj := oR [some (.ref 13), some (.ref 3), some (.ref 3), none, some (vs "__main__" 164), none, some (.ref 0)]
noncomputable def hstT (P : Params) (G : List DictEntry) (e : Nat) (R : List Value) (L : List Obj) : BT :=
  ofL 12 (boot_o_0 P :: boot_o_1 P :: boot_o_2 P :: oD G e :: boot_o_4 P :: boot_o_5 P :: boot_o_6 P :: boot_o_7 P :: boot_o_8 P :: boot_o_9 P :: boot_o_10 P :: o11 :: oF R :: o13 :: o14 :: L)
noncomputable def hstS (w : World) (os : OsState) (T : BT) (n toks : Nat) : SharedT := ⟨T, n, (boot_heap w.params).life, #[], boot_drawn, toks, os⟩
noncomputable abbrev annV : Option Value := some (.ref 6)
noncomputable abbrev posQ : PySem.Pos := ⟨0, 0, 0, 0⟩
noncomputable abbrev bodyT : List Stmt := behindTheImports PW
noncomputable abbrev envT : Env := { scope := PW.main.scope, locals := mainNs, globals := mainNs, cells := [], code := .ref 13, frame := some 14 }
theorem teSeg : @segRunT = PySem.W.Fast.tw10110043849684766642 := PySem.W.Fast.te10110043849684766642
theorem teTab : treeTable = PySem.W.Fast.tw14364793385576792824 := PySem.W.Fast.te14364793385576792824
noncomputable def hG0 (P : Params) : List DictEntry := [de P "__name__" 165 (vs "__main__" 164), de P "__doc__" 166 (.none), de P "__package__" 167 (.none), de P "__loader__" 168 (.builtin "__main__.__loader__#opaque"), de P "__spec__" 169 (.none), de P "__annotations__" 170 (.ref 6), de P "__builtins__" 171 (.ref 4), de P "__file__" 173 (vs "/claim/cut.py" 172), de P "__cached__" 174 (.none)]
noncomputable def hR0 : List Value := []
noncomputable def hL0 (P : Params) : List Obj := []
noncomputable def hT0 (P : Params) : BT := hstT P (hG0 P) 9 hR0 []
noncomputable def hS0 (w : World) (os : OsState) : SharedT := hstS w os (hT0 w.params) 15 187
noncomputable def hL1 (P : Params) : List Obj := cat [dO (topAt 0) "_wall" "_wall" 1 1 3 187 15 ["k"] (vs "__main__" 164) (.none),
  [oT [],
  oM "builtin_function_or_method" [.builtin "type.__prepare__", .type "type"],
  oD [de P "__module__" 203 (vs "moduleyard.trees" 194), de P "__qualname__" 205 (vs "Node" 204), de P "__firstlineno__" 207 (.int 5 206), de P "__init__" 219 (.ref 36), de P "__static_attributes__" 226 (.ref 37)] 5,
  oT [],
  oF [.int 7 0, .int 4 0, .ref 35],
  oM "code" [vs "Node" 198, vs "Node" 199, vs "/claim/cut.py" 200, .int 5 0, .int 0 0, .int 0 0, .int 0 0, .int 0 0, .ref 25, .bool false, .int 181 0, .ref 26, .none, .none, .none, .none, .int 201 0, .int 5 0, vs "/claim/cut.py" 202],
  oR [some (.ref 27), some (.ref 3), some (.ref 24), none, some (vs "moduleyard.trees" 194), none, some (.ref 0)],
  oT [.none]],
  dO (metAt 2 0) "__init__" "Node.__init__" 7 6 3 208 30 ["self", "op", "place", "type_of", "kids", "value"] (vs "moduleyard.trees" 194) (.ref 29),
  [oT [vs "kids" 220, vs "op" 221, vs "place" 222, vs "sure" 223, vs "type" 224, vs "value" 225],
  oD [de P "__module__" 203 (vs "moduleyard.trees" 194), de P "__firstlineno__" 207 (.int 5 206), de P "__init__" 219 (.ref 36), de P "__static_attributes__" 226 (.ref 37), de P "__dict__" 228 (.ref 40), de P "__weakref__" 230 (.ref 41), de P "__doc__" 231 (.none)] 4,
  oY "Node" [.type "object"] [.ref 39, .type "object"] 38 "Node" [none, none, some (vs "Node" 196), some (vs "Node" 204), some (.builtin "object.__new__"), some (.bool true)],
  oM "getset_descriptor" [vs "__dict__" 227, .ref 39, .builtin "function.__dict__", .builtin "function.__dict__#set"],
  oM "getset_descriptor" [vs "__weakref__" 229, .ref 39, .builtin "ExceptionGroup.__weakref__", .none],
  oM "super" [.ref 39, .ref 39, .ref 39],
  oM "builtin_function_or_method" [.builtin "object.__init_subclass__", .ref 39]],
  dO (topAt 3) "const" "const" 14 3 3 234 44 ["t", "value", "place"] (vs "moduleyard.trees" 194) (.none),
  dO (topAt 4) "is_designator" "is_designator" 16 1 3 243 51 ["node"] (vs "moduleyard.trees" 194) (.none),
  dO (topAt 5) "root_var" "root_var" 20 1 3 250 58 ["node"] (vs "moduleyard.trees" 194) (.none),
  dO (topAt 6) "is_readonly" "is_readonly" 26 1 3 257 65 ["node", "root"] (vs "moduleyard.trees" 194) (.none),
  dO (topAt 8) "same_type" "same_type" 30 2 3 267 72 ["a", "b"] (vs "moduleyard.typerel" 265) (.none)]
noncomputable def hG1 (P : Params) : List DictEntry := (hG0 P).set 0 (de P "__name__" 165 (vs "moduleyard.typerel" 265)) ++ [de P "_wall" 193 (.ref 21), de P "Node" 233 (.ref 39), de P "const" 242 (.ref 50), de P "is_designator" 249 (.ref 57), de P "root_var" 256 (.ref 64), de P "is_readonly" 264 (.ref 71), de P "same_type" 274 (.ref 78)]
noncomputable def hR1 : List Value := hR0 ++ [.int 1 0, .int 0 0, .ref 20, .int 5 0, .int 0 0, .ref 27, .int 14 0, .int 0 0, .ref 49, .int 16 0, .int 0 0, .ref 56, .int 20 0, .int 0 0, .ref 63, .int 26 0, .int 0 0, .ref 70, .int 30 0, .int 0 0, .ref 77]
noncomputable def hT1 (P : Params) : BT := hstT P (hG1 P) 16 hR1 (hL1 P)
noncomputable def hS1 (w : World) (os : OsState) : SharedT := hstS w os (hT1 w.params) 79 275
theorem p1 (w : World) (os : OsState) : segRunT treeTable PW w 11 annV 1 429 (hS0 w os) (piecesOf ((bodyT.drop 0).take 9) envT (.body bodyT envT) ⟨0, 0, 0, 0⟩ [topFrame posQ]) = some (.next, hS1 w os, .body bodyT envT, ⟨30, 0, 31, 31⟩) := by rw [teSeg, teTab]; kernel_rfl
noncomputable def hL2 (P : Params) : List Obj := cat [dO (topAt 9) "is_integer" "is_integer" 32 1 3 275 79 ["t"] (vs "moduleyard.typerel" 265) (.none),
  dO (topAt 10) "is_text" "is_text" 34 1 3 282 86 ["t"] (vs "moduleyard.typerel" 265) (.none),
  dO (topAt 11) "is_open" "is_open" 36 1 3 289 93 ["t"] (vs "moduleyard.typerel" 265) (.none),
  dO (topAt 12) "record_of" "record_of" 38 1 3 296 100 ["t"] (vs "moduleyard.typerel" 265) (.none),
  dO (topAt 13) "extends" "extends" 44 2 3 303 107 ["a", "b", "one", "wanted"] (vs "moduleyard.typerel" 265) (.none),
  dO (topAt 14) "equal_types" "equal_types" 56 2 3 313 114 ["a", "b"] (vs "moduleyard.typerel" 265) (.none),
  dO (topAt 15) "equal_procs" "equal_procs" 64 2 3 321 121 ["a", "b", "place", "one", "other"] (vs "moduleyard.typerel" 265) (.none),
  dO (topAt 16) "equal_arrays" "equal_arrays" 75 2 3 332 128 ["a", "b"] (vs "moduleyard.typerel" 265) (.none),
  dO (topAt 17) "assignable_string" "assignable_string" 81 2 3 340 135 ["t", "length"] (vs "moduleyard.typerel" 265) (.none),
  dO (topAt 18) "assignable_proc" "assignable_proc" 89 2 3 348 142 ["t", "node"] (vs "moduleyard.typerel" 265) (.none),
  dO (topAt 19) "assignable" "assignable" 93 2 3 356 149 ["t", "node", "v"] (vs "moduleyard.typerel" 265) (.none),
  dO (topAt 20) "passable_variable" "passable_variable" 108 2 3 365 156 ["t", "node", "v", "fits"] (vs "moduleyard.typerel" 265) (.none),
  dO (topAt 21) "passable_structure" "passable_structure" 121 2 3 375 163 ["t", "node", "v", "fits"] (vs "moduleyard.typerel" 265) (.none),
  dO (topAt 22) "passable" "passable" 132 2 3 385 170 ["par", "node"] (vs "moduleyard.typerel" 265) (.none)]
noncomputable def hG2 (P : Params) : List DictEntry := (hG1 P).set 0 (de P "__name__" 165 (vs "moduleyard.checkassign" 393)) ++ [de P "is_integer" 281 (.ref 85), de P "is_text" 288 (.ref 92), de P "is_open" 295 (.ref 99), de P "record_of" 302 (.ref 106), de P "extends" 312 (.ref 113), de P "equal_types" 320 (.ref 120), de P "equal_procs" 331 (.ref 127), de P "equal_arrays" 339 (.ref 134), de P "assignable_string" 347 (.ref 141), de P "assignable_proc" 355 (.ref 148), de P "assignable" 364 (.ref 155), de P "passable_variable" 374 (.ref 162), de P "passable_structure" 384 (.ref 169), de P "passable" 392 (.ref 176)]
noncomputable def hR2 : List Value := hR1 ++ [.int 32 0, .int 0 0, .ref 84, .int 34 0, .int 0 0, .ref 91, .int 36 0, .int 0 0, .ref 98, .int 38 0, .int 0 0, .ref 105, .int 44 0, .int 0 0, .ref 112, .int 56 0, .int 0 0, .ref 119, .int 64 0, .int 0 0, .ref 126, .int 75 0, .int 0 0, .ref 133, .int 81 0, .int 0 0, .ref 140, .int 89 0, .int 0 0, .ref 147, .int 93 0, .int 0 0, .ref 154, .int 108 0, .int 0 0, .ref 161, .int 121 0, .int 0 0, .ref 168, .int 132 0, .int 0 0, .ref 175]
noncomputable def hT2 (P : Params) : BT := hstT P (hG2 P) 30 hR2 (hL1 P ++ (hL2 P))
noncomputable def hS2 (w : World) (os : OsState) : SharedT := hstS w os (hT2 w.params) 177 395
theorem p2 (w : World) (os : OsState) : segRunT treeTable PW w 11 annV 1 436 (hS1 w os) (piecesOf ((bodyT.drop 9).take 15) envT (.body bodyT envT) ⟨30, 0, 31, 31⟩ [topFrame posQ]) = some (.next, hS2 w os, .body bodyT envT, ⟨138, 0, 138, 8⟩) := by rw [teSeg, teTab]; kernel_rfl
noncomputable def hL3 (P : Params) : List Obj := cat [dO (topAt 24) "convert" "convert" 139 5 3 395 177 ["types", "errors", "t", "node", "place", "letter"] (vs "moduleyard.checkassign" 393) (.none),
  dO (topAt 25) "argument" "argument" 144 4 3 407 184 ["types", "errors", "par", "node", "code"] (vs "moduleyard.checkassign" 393) (.none),
  dO (topAt 26) "use_code" "use_code" 150 2 3 418 191 ["result", "as_statement"] (vs "moduleyard.checkassign" 393) (.none),
  dO (topAt 28) "call_node" "call_node" 157 6 3 427 198 ["types", "errors", "designator", "arguments", "place", "as_statement", "t", "code", "kids", "spot"] (vs "moduleyard.checkassign" 393) (.none),
  dO (topAt 30) "index_of" "index_of" 178 5 3 445 205 ["types", "errors", "node", "index", "place", "t"] (vs "moduleyard.checkdesig" 443) (.none),
  dO (topAt 31) "field_named" "field_named" 189 2 3 457 212 ["record", "name", "field"] (vs "moduleyard.checkdesig" 443) (.none),
  dO (topAt 32) "field_of" "field_of" 196 5 3 466 219 ["types", "errors", "node", "name", "place", "found"] (vs "moduleyard.checkdesig" 443) (.none),
  dO (topAt 33) "deref_of" "deref_of" 207 4 3 478 226 ["types", "errors", "node", "place"] (vs "moduleyard.checkdesig" 443) (.none),
  dO (topAt 34) "guard_code" "guard_code" 212 2 3 488 233 ["node", "t", "inner", "by_reference"] (vs "moduleyard.checkdesig" 443) (.none),
  dO (topAt 35) "guard_of" "guard_of" 227 5 3 498 240 ["types", "errors", "node", "t", "place", "code"] (vs "moduleyard.checkdesig" 443) (.none),
  dO (topAt 36) "is_test" "is_test" 233 5 3 510 247 ["types", "errors", "node", "t", "place", "code"] (vs "moduleyard.checkdesig" 443) (.none),
  dO (topAt 39) "wrap" "wrap" 241 1 3 526 254 ["n", "low"] (vs "moduleyard.consts" 522) (.none)]
noncomputable def hG3 (P : Params) : List DictEntry := (hG2 P).set 0 (de P "__name__" 165 (vs "moduleyard.consts" 522)) ++ [de P "convert" 406 (.ref 183), de P "argument" 417 (.ref 190), de P "use_code" 425 (.ref 197), de P "use_code_checkassign" 426 (.ref 197), de P "call_node" 442 (.ref 204), de P "index_of" 456 (.ref 211), de P "field_named" 465 (.ref 218), de P "field_of" 477 (.ref 225), de P "deref_of" 487 (.ref 232), de P "guard_code" 497 (.ref 239), de P "guard_of" 509 (.ref 246), de P "is_test" 521 (.ref 253), de P "FULL" 525 (.int 4294967295 524), de P "wrap" 533 (.ref 260)]
noncomputable def hR3 : List Value := hR2 ++ [.int 139 0, .int 0 0, .ref 182, .int 144 0, .int 0 0, .ref 189, .int 150 0, .int 0 0, .ref 196, .int 157 0, .int 0 0, .ref 203, .int 178 0, .int 0 0, .ref 210, .int 189 0, .int 0 0, .ref 217, .int 196 0, .int 0 0, .ref 224, .int 207 0, .int 0 0, .ref 231, .int 212 0, .int 0 0, .ref 238, .int 227 0, .int 0 0, .ref 245, .int 233 0, .int 0 0, .ref 252, .int 241 0, .int 0 0, .ref 259]
noncomputable def hT3 (P : Params) : BT := hstT P (hG3 P) 44 hR3 (hL1 P ++ (hL2 P ++ (hL3 P)))
noncomputable def hS3 (w : World) (os : OsState) : SharedT := hstS w os (hT3 w.params) 261 534
theorem p3 (w : World) (os : OsState) : segRunT treeTable PW w 11 annV 1 434 (hS2 w os) (piecesOf ((bodyT.drop 24).take 16) envT (.body bodyT envT) ⟨138, 0, 138, 8⟩ [topFrame posQ]) = some (.next, hS3 w os, .body bodyT envT, ⟨241, 0, 243, 54⟩) := by rw [teSeg, teTab]; kernel_rfl
noncomputable def hL4 (P : Params) : List Obj := cat [dO (topAt 40) "fits" "fits" 244 1 3 534 261 ["n"] (vs "moduleyard.consts" 522) (.none),
  dO (topAt 41) "checked" "checked" 246 1 3 541 268 ["n"] (vs "moduleyard.consts" 522) (.none),
  dO (topAt 42) "fold_unary" "fold_unary" 250 2 3 548 275 ["op", "x"] (vs "moduleyard.consts" 522) (.none),
  dO (topAt 43) "fold_division" "fold_division" 256 3 3 556 282 ["op", "x", "y"] (vs "moduleyard.consts" 522) (.none),
  dO (topAt 44) "fold_binary" "fold_binary" 260 3 3 565 289 ["op", "x", "y"] (vs "moduleyard.consts" 522) (.none),
  dO (topAt 45) "up_to_end" "up_to_end" 276 1 3 574 296 ["text", "place"] (vs "moduleyard.consts" 522) (.none),
  dO (topAt 46) "order_of" "order_of" 279 3 3 582 303 ["kind", "x", "y"] (vs "moduleyard.consts" 522) (.none),
  dO (topAt 47) "fold_relation" "fold_relation" 286 4 3 591 310 ["op", "kind", "x", "y", "same", "sign", "held"] (vs "moduleyard.consts" 522) (.none),
  dO (topAt 48) "mask_range" "mask_range" 301 2 3 604 317 ["a", "b"] (vs "moduleyard.consts" 522) (.none),
  dO (topAt 49) "fold_shift" "fold_shift" 305 3 3 612 324 ["op", "x", "n", "low"] (vs "moduleyard.consts" 522) (.none),
  dO (topAt 51) "is_const" "is_const" 315 1 3 624 331 ["node"] (vs "moduleyard.checkops" 622) (.none),
  dO (topAt 53) "wrong" "wrong" 318 4 3 632 338 ["errors", "t", "place", "code"] (vs "moduleyard.checkops" 622) (.none),
  dO (topAt 54) "unary" "unary" 321 5 3 642 345 ["types", "errors", "op", "node", "place", "form"] (vs "moduleyard.checkops" 622) (.none)]
noncomputable def hG4 (P : Params) : List DictEntry := (hG3 P).set 0 (de P "__name__" 165 (vs "moduleyard.checkops" 622)) ++ [de P "fits" 540 (.ref 267), de P "checked" 547 (.ref 274), de P "fold_unary" 555 (.ref 281), de P "fold_division" 564 (.ref 288), de P "fold_binary" 573 (.ref 295), de P "up_to_end" 581 (.ref 302), de P "order_of" 590 (.ref 309), de P "fold_relation" 603 (.ref 316), de P "mask_range" 611 (.ref 323), de P "fold_shift" 621 (.ref 330), de P "is_const" 630 (.ref 337), de P "is_const_checkops" 631 (.ref 337), de P "wrong" 641 (.ref 344), de P "unary" 653 (.ref 351)]
noncomputable def hR4 : List Value := hR3 ++ [.int 244 0, .int 0 0, .ref 266, .int 246 0, .int 0 0, .ref 273, .int 250 0, .int 0 0, .ref 280, .int 256 0, .int 0 0, .ref 287, .int 260 0, .int 0 0, .ref 294, .int 276 0, .int 0 0, .ref 301, .int 279 0, .int 0 0, .ref 308, .int 286 0, .int 0 0, .ref 315, .int 301 0, .int 0 0, .ref 322, .int 305 0, .int 0 0, .ref 329, .int 315 0, .int 0 0, .ref 336, .int 318 0, .int 0 0, .ref 343, .int 321 0, .int 0 0, .ref 350]
noncomputable def hT4 (P : Params) : BT := hstT P (hG4 P) 58 hR4 (hL1 P ++ (hL2 P ++ (hL3 P ++ (hL4 P))))
noncomputable def hS4 (w : World) (os : OsState) : SharedT := hstS w os (hT4 w.params) 352 654
theorem p4 (w : World) (os : OsState) : segRunT treeTable PW w 11 annV 1 423 (hS3 w os) (piecesOf ((bodyT.drop 40).take 15) envT (.body bodyT envT) ⟨241, 0, 243, 54⟩ [topFrame posQ]) = some (.next, hS4 w os, .body bodyT envT, ⟨321, 0, 333, 15⟩) := by rw [teSeg, teTab]; kernel_rfl
noncomputable def hL5 (P : Params) : List Obj := cat [dO (topAt 55) "unary_node" "unary_node" 334 5 3 654 352 ["errors", "op", "t", "node", "place", "value", "code"] (vs "moduleyard.checkops" 622) (.none),
  dO (topAt 56) "binary" "binary" 341 6 3 667 359 ["types", "errors", "op", "x", "y", "place"] (vs "moduleyard.checkops" 622) (.none),
  dO (topAt 57) "binary_node" "binary_node" 355 6 3 679 366 ["errors", "op", "t", "x", "y", "place", "value", "code"] (vs "moduleyard.checkops" 622) (.none),
  dO (topAt 58) "element_code" "element_code" 362 1 3 693 373 ["node"] (vs "moduleyard.checkops" 622) (.none),
  dO (topAt 59) "constant_mask" "constant_mask" 368 1 3 700 380 ["element", "kid"] (vs "moduleyard.checkops" 622) (.none),
  dO (topAt 60) "setnode" "setnode" 373 4 3 708 387 ["types", "errors", "place", "elements", "sound", "element", "kid", "code", "mask", "part"] (vs "moduleyard.checkops" 622) (.none),
  dO (topAt 62) "is_letter" "is_letter" 391 1 3 726 394 ["node"] (vs "moduleyard.checkrel" 724) (.none),
  dO (topAt 64) "as_char" "as_char" 394 2 3 734 401 ["types", "node"] (vs "moduleyard.checkrel" 724) (.none),
  dO (topAt 65) "compared" "compared" 398 3 3 742 408 ["op", "x", "y", "one", "other", "equality"] (vs "moduleyard.checkrel" 724) (.none),
  dO (topAt 66) "referred" "referred" 415 2 3 754 415 ["x", "y", "one", "other", "node", "kinds", "fits"] (vs "moduleyard.checkrel" 724) (.none),
  dO (topAt 67) "relation" "relation" 431 6 3 767 422 ["types", "errors", "op", "x", "y", "place", "kind"] (vs "moduleyard.checkrel" 724) (.none),
  dO (topAt 68) "folded" "folded" 447 6 3 780 429 ["types", "op", "kind", "x", "y", "place", "value", "code"] (vs "moduleyard.checkrel" 724) (.none)]
noncomputable def hG5 (P : Params) : List DictEntry := (hG4 P).set 0 (de P "__name__" 165 (vs "moduleyard.checkrel" 724)) ++ [de P "unary_node" 666 (.ref 358), de P "binary" 678 (.ref 365), de P "binary_node" 692 (.ref 372), de P "element_code" 699 (.ref 379), de P "constant_mask" 707 (.ref 386), de P "setnode" 723 (.ref 393), de P "is_letter" 732 (.ref 400), de P "is_letter_checkrel" 733 (.ref 400), de P "as_char" 741 (.ref 407), de P "compared" 753 (.ref 414), de P "referred" 766 (.ref 421), de P "relation" 779 (.ref 428), de P "folded" 793 (.ref 435), de P "folded_checkrel" 794 (.ref 435)]
noncomputable def hR5 : List Value := hR4 ++ [.int 334 0, .int 0 0, .ref 357, .int 341 0, .int 0 0, .ref 364, .int 355 0, .int 0 0, .ref 371, .int 362 0, .int 0 0, .ref 378, .int 368 0, .int 0 0, .ref 385, .int 373 0, .int 0 0, .ref 392, .int 391 0, .int 0 0, .ref 399, .int 394 0, .int 0 0, .ref 406, .int 398 0, .int 0 0, .ref 413, .int 415 0, .int 0 0, .ref 420, .int 431 0, .int 0 0, .ref 427, .int 447 0, .int 0 0, .ref 434]
noncomputable def hT5 (P : Params) : BT := hstT P (hG5 P) 72 hR5 (hL1 P ++ (hL2 P ++ (hL3 P ++ (hL4 P ++ (hL5 P)))))
noncomputable def hS5 (w : World) (os : OsState) : SharedT := hstS w os (hT5 w.params) 436 795
theorem p5 (w : World) (os : OsState) : segRunT treeTable PW w 11 annV 1 431 (hS4 w os) (piecesOf ((bodyT.drop 55).take 15) envT (.body bodyT envT) ⟨321, 0, 333, 15⟩ [topFrame posQ]) = some (.next, hS5 w os, .body bodyT envT, ⟨452, 0, 452, 15⟩) := by rw [teSeg, teTab]; kernel_rfl
noncomputable def hL6 (P : Params) : List Obj := cat [dO (topAt 70) "member" "member" 453 5 3 795 436 ["types", "errors", "x", "y", "place"] (vs "moduleyard.checkrel" 724) (.none),
  dO (topAt 72) "is_const" "is_const" 465 1 3 808 443 ["node"] (vs "moduleyard.checkstd" 806) (.none),
  dO (topAt 74) "wanted_count" "wanted_count" 468 1 3 816 450 ["name"] (vs "moduleyard.checkstd" 806) (.none),
  dO (topAt 75) "is_function" "is_function" 474 1 3 823 457 ["name"] (vs "moduleyard.checkstd" 806) (.none),
  dO (topAt 76) "result_type" "result_type" 476 3 3 830 464 ["types", "name", "arguments"] (vs "moduleyard.checkstd" 806) (.none),
  dO (topAt 77) "std_call" "std_call" 484 6 3 839 471 ["types", "errors", "name", "arguments", "place", "as_statement", "code"] (vs "moduleyard.checkstd" 806) (.none),
  dO (topAt 78) "use_code" "use_code" 499 3 3 852 478 ["name", "count", "as_statement", "least", "most"] (vs "moduleyard.checkstd" 806) (.none),
  dO (topAt 80) "marked" "marked" 509 3 3 864 485 ["errors", "node", "code"] (vs "moduleyard.checkstd" 806) (.none),
  dO (topAt 81) "integer_code" "integer_code" 513 1 3 873 492 ["node"] (vs "moduleyard.checkstd" 806) (.none),
  dO (topAt 82) "variable_code" "variable_code" 517 1 3 880 499 ["node"] (vs "moduleyard.checkstd" 806) (.none),
  dO (topAt 83) "range_code" "range_code" 523 2 3 887 506 ["node", "code"] (vs "moduleyard.checkstd" 806) (.none),
  dO (topAt 84) "function_code" "function_code" 527 3 3 895 513 ["errors", "name", "arguments", "first", "code"] (vs "moduleyard.checkstd" 806) (.none),
  dO (topAt 85) "is_letter" "is_letter" 545 1 3 906 520 ["node"] (vs "moduleyard.checkstd" 806) (.none)]
noncomputable def hG6 (P : Params) : List DictEntry := ((((hG5 P).set 0 (de P "__name__" 165 (vs "moduleyard.checkstd" 806))).set 32 (de P "use_code" 425 (.ref 484))).set 54 (de P "is_const" 630 (.ref 449))).set 64 (de P "is_letter" 732 (.ref 526)) ++ [de P "member" 805 (.ref 442), de P "is_const_checkstd" 815 (.ref 449), de P "wanted_count" 822 (.ref 456), de P "is_function" 829 (.ref 463), de P "result_type" 838 (.ref 470), de P "std_call" 851 (.ref 477), de P "use_code_checkstd" 863 (.ref 484), de P "marked" 872 (.ref 491), de P "integer_code" 879 (.ref 498), de P "variable_code" 886 (.ref 505), de P "range_code" 894 (.ref 512), de P "function_code" 905 (.ref 519), de P "is_letter_checkstd" 913 (.ref 526)]
noncomputable def hR6 : List Value := hR5 ++ [.int 453 0, .int 0 0, .ref 441, .int 465 0, .int 0 0, .ref 448, .int 468 0, .int 0 0, .ref 455, .int 474 0, .int 0 0, .ref 462, .int 476 0, .int 0 0, .ref 469, .int 484 0, .int 0 0, .ref 476, .int 499 0, .int 0 0, .ref 483, .int 509 0, .int 0 0, .ref 490, .int 513 0, .int 0 0, .ref 497, .int 517 0, .int 0 0, .ref 504, .int 523 0, .int 0 0, .ref 511, .int 527 0, .int 0 0, .ref 518, .int 545 0, .int 0 0, .ref 525]
noncomputable def hT6 (P : Params) : BT := hstT P (hG6 P) 85 hR6 (hL1 P ++ (hL2 P ++ (hL3 P ++ (hL4 P ++ (hL5 P ++ (hL6 P))))))
noncomputable def hS6 (w : World) (os : OsState) : SharedT := hstS w os (hT6 w.params) 527 914
theorem p6 (w : World) (os : OsState) : segRunT treeTable PW w 11 annV 1 440 (hS5 w os) (piecesOf ((bodyT.drop 70).take 17) envT (.body bodyT envT) ⟨452, 0, 452, 15⟩ [topFrame posQ]) = some (.next, hS6 w os, .body bodyT envT, ⟨547, 0, 547, 18⟩) := by rw [teSeg, teTab]; kernel_rfl
noncomputable def hL7 (P : Params) : List Obj := cat [dO (topAt 87) "ord_code" "ord_code" 548 1 3 914 527 ["node"] (vs "moduleyard.checkstd" 806) (.none),
  dO (topAt 88) "is_plain" "is_plain" 552 1 3 921 534 ["t"] (vs "moduleyard.checkstd" 806) (.none),
  dO (topAt 89) "val_code" "val_code" 554 2 3 928 541 ["t", "node"] (vs "moduleyard.checkstd" 806) (.none),
  [oT [],
  oF [],
  oP (topAt 90) "function_node",
  oM "code" [vs "function_node" 936, vs "function_node" 937, vs "/claim/cut.py" 938, .int 558 0, .int 5 0, .int 0 0, .int 0 0, .int 3 0, .ref 548, .bool true, .int 181 0, .ref 549, .none, .none, .none, .ref 550, .int 939 0, .int 558 0, vs "/claim/cut.py" 940],
  oG (topAt 90) "function_node" (.none) (vs "moduleyard.checkstd" 806) (.ref 551)],
  dO (topAt 91) "folded" "folded" 579 2 3 942 553 ["name", "values", "x"] (vs "moduleyard.checkstd" 806) (.none),
  dO (topAt 93) "val_node" "val_node" 595 4 3 952 560 ["types", "t", "node", "place"] (vs "moduleyard.checkstd" 806) (.none),
  dO (topAt 94) "val_value" "val_value" 601 2 3 962 567 ["t", "value"] (vs "moduleyard.checkstd" 806) (.none),
  dO (topAt 95) "statement_code" "statement_code" 609 3 3 970 574 ["errors", "name", "arguments", "first", "code"] (vs "moduleyard.checkstd" 806) (.none),
  dO (topAt 96) "target_code" "target_code" 621 2 3 981 581 ["name", "node"] (vs "moduleyard.checkstd" 806) (.none),
  dO (topAt 97) "statement_node" "statement_node" 627 4 3 989 588 ["types", "name", "arguments", "place", "kids"] (vs "moduleyard.checkstd" 806) (.none),
  dO (topAt 99) "qualident" "qualident" 633 1 3 1002 595 ["rd", "token", "found", "inner", "shown"] (vs "moduleyard.desigparse" 1000) (.none),
  dO (topAt 100) "object_node" "object_node" 652 3 3 1013 602 ["rd", "found", "place"] (vs "moduleyard.desigparse" 1000) (.none),
  dO (topAt 101) "variable_node" "variable_node" 665 2 3 1022 609 ["found", "place", "t"] (vs "moduleyard.desigparse" 1000) (.none),
  dO (topAt 102) "designator" "designator" 672 2 3 1031 616 ["rd", "expression", "place", "found", "node"] (vs "moduleyard.desigparse" 1000) (.none)]
noncomputable def hG7 (P : Params) : List DictEntry := ((hG6 P).set 0 (de P "__name__" 165 (vs "moduleyard.desigparse" 1000))).set 70 (de P "folded" 793 (.ref 559)) ++ [de P "ord_code" 920 (.ref 533), de P "is_plain" 927 (.ref 540), de P "val_code" 935 (.ref 547), de P "function_node" 941 (.ref 552), de P "folded_checkstd" 951 (.ref 559), de P "val_node" 961 (.ref 566), de P "val_value" 969 (.ref 573), de P "statement_code" 980 (.ref 580), de P "target_code" 988 (.ref 587), de P "statement_node" 999 (.ref 594), de P "qualident" 1012 (.ref 601), de P "object_node" 1021 (.ref 608), de P "variable_node" 1030 (.ref 615), de P "designator" 1041 (.ref 622)]
noncomputable def hR7 : List Value := hR6 ++ [.int 548 0, .int 0 0, .ref 532, .int 552 0, .int 0 0, .ref 539, .int 554 0, .int 0 0, .ref 546, .int 558 0, .int 0 0, .ref 551, .int 579 0, .int 0 0, .ref 558, .int 595 0, .int 0 0, .ref 565, .int 601 0, .int 0 0, .ref 572, .int 609 0, .int 0 0, .ref 579, .int 621 0, .int 0 0, .ref 586, .int 627 0, .int 0 0, .ref 593, .int 633 0, .int 0 0, .ref 600, .int 652 0, .int 0 0, .ref 607, .int 665 0, .int 0 0, .ref 614, .int 672 0, .int 0 0, .ref 621]
noncomputable def hT7 (P : Params) : BT := hstT P (hG7 P) 99 hR7 (hL1 P ++ (hL2 P ++ (hL3 P ++ (hL4 P ++ (hL5 P ++ (hL6 P ++ (hL7 P)))))))
noncomputable def hS7 (w : World) (os : OsState) : SharedT := hstS w os (hT7 w.params) 623 1042
theorem p7 (w : World) (os : OsState) : segRunT treeTable PW w 11 annV 1 451 (hS6 w os) (piecesOf ((bodyT.drop 87).take 16) envT (.body bodyT envT) ⟨547, 0, 547, 18⟩ [topFrame posQ]) = some (.next, hS7 w os, .body bodyT envT, ⟨672, 0, 679, 42⟩) := by rw [teSeg, teTab]; kernel_rfl
noncomputable def hL8 (P : Params) : List Obj := cat [dO (topAt 103) "selectors" "selectors" 680 3 3 1042 623 ["rd", "node", "expression", "place", "name"] (vs "moduleyard.desigparse" 1000) (.none),
  dO (topAt 104) "guarded" "guarded" 698 3 3 1053 630 ["rd", "node", "place", "spot", "found"] (vs "moduleyard.desigparse" 1000) (.none),
  dO (topAt 106) "expression" "expression" 710 1 3 1066 637 ["rd", "left", "token"] (vs "moduleyard.exprparse" 1064) (.none),
  dO (topAt 107) "type_test" "type_test" 720 3 3 1075 644 ["rd", "left", "place", "spot", "found"] (vs "moduleyard.exprparse" 1064) (.none),
  dO (topAt 108) "simple_expression" "simple_expression" 728 1 3 1086 651 ["rd", "token", "left"] (vs "moduleyard.exprparse" 1064) (.none),
  dO (topAt 109) "term" "term" 739 1 3 1095 658 ["rd", "left", "token"] (vs "moduleyard.exprparse" 1064) (.none),
  dO (topAt 110) "factor" "factor" 745 1 3 1104 665 ["rd", "token", "kind", "node"] (vs "moduleyard.exprparse" 1064) (.none),
  dO (topAt 111) "named_factor" "named_factor" 771 1 3 1114 672 ["rd", "node", "place"] (vs "moduleyard.exprparse" 1064) (.none),
  dO (topAt 112) "std_factor" "std_factor" 782 2 3 1123 679 ["rd", "node", "given"] (vs "moduleyard.exprparse" 1064) (.none),
  dO (topAt 113) "arguments" "arguments" 791 2 3 1132 686 ["rd", "expression", "found"] (vs "moduleyard.exprparse" 1064) (.none),
  dO (topAt 114) "type_arguments" "type_arguments" 800 1 3 1141 693 ["rd", "found"] (vs "moduleyard.exprparse" 1064) (.none),
  dO (topAt 115) "type_argument" "type_argument" 807 1 3 1149 700 ["rd", "place", "found"] (vs "moduleyard.exprparse" 1064) (.none),
  dO (topAt 116) "set_constructor" "set_constructor" 815 1 3 1158 707 ["rd", "place", "elements"] (vs "moduleyard.exprparse" 1064) (.none),
  dO (topAt 117) "set_element" "set_element" 825 1 3 1167 714 ["rd", "first"] (vs "moduleyard.exprparse" 1064) (.none)]
noncomputable def hG8 (P : Params) : List DictEntry := (hG7 P).set 0 (de P "__name__" 165 (vs "moduleyard.exprparse" 1064)) ++ [de P "selectors" 1052 (.ref 629), de P "guarded" 1063 (.ref 636), de P "expression" 1074 (.ref 643), de P "type_test" 1085 (.ref 650), de P "simple_expression" 1094 (.ref 657), de P "term" 1103 (.ref 664), de P "factor" 1113 (.ref 671), de P "named_factor" 1122 (.ref 678), de P "std_factor" 1131 (.ref 685), de P "arguments" 1140 (.ref 692), de P "type_arguments" 1148 (.ref 699), de P "type_argument" 1157 (.ref 706), de P "set_constructor" 1166 (.ref 713), de P "set_element" 1174 (.ref 720)]
noncomputable def hR8 : List Value := hR7 ++ [.int 680 0, .int 0 0, .ref 628, .int 698 0, .int 0 0, .ref 635, .int 710 0, .int 0 0, .ref 642, .int 720 0, .int 0 0, .ref 649, .int 728 0, .int 0 0, .ref 656, .int 739 0, .int 0 0, .ref 663, .int 745 0, .int 0 0, .ref 670, .int 771 0, .int 0 0, .ref 677, .int 782 0, .int 0 0, .ref 684, .int 791 0, .int 0 0, .ref 691, .int 800 0, .int 0 0, .ref 698, .int 807 0, .int 0 0, .ref 705, .int 815 0, .int 0 0, .ref 712, .int 825 0, .int 0 0, .ref 719]
noncomputable def hT8 (P : Params) : BT := hstT P (hG8 P) 113 hR8 (hL1 P ++ (hL2 P ++ (hL3 P ++ (hL4 P ++ (hL5 P ++ (hL6 P ++ (hL7 P ++ (hL8 P))))))))
noncomputable def hS8 (w : World) (os : OsState) : SharedT := hstS w os (hT8 w.params) 721 1175
theorem p8 (w : World) (os : OsState) : segRunT treeTable PW w 11 annV 1 449 (hS7 w os) (piecesOf ((bodyT.drop 103).take 15) envT (.body bodyT envT) ⟨672, 0, 679, 42⟩ [topFrame posQ]) = some (.next, hS8 w os, .body bodyT envT, ⟨825, 0, 829, 71⟩) := by rw [teSeg, teTab]; kernel_rfl
noncomputable def hL9 (P : Params) : List Obj := cat [[oT [],
  oM "builtin_function_or_method" [.builtin "type.__prepare__", .type "type"],
  oD [de P "__module__" 1184 (vs "moduleyard.errors" 1175), de P "__qualname__" 1186 (vs "ErrorList" 1185), de P "__firstlineno__" 1188 (.int 831 1187), de P "__init__" 1195 (.ref 734), de P "mark" 1204 (.ref 741), de P "first" 1211 (.ref 748), de P "ok" 1218 (.ref 755), de P "__static_attributes__" 1221 (.ref 756)] 8,
  oT [],
  oF [.int 833 0, .int 4 0, .ref 733, .int 837 0, .int 4 0, .ref 740, .int 842 0, .int 4 0, .ref 747, .int 847 0, .int 4 0, .ref 754],
  oM "code" [vs "ErrorList" 1179, vs "ErrorList" 1180, vs "/claim/cut.py" 1181, .int 831 0, .int 0 0, .int 0 0, .int 0 0, .int 0 0, .ref 724, .bool false, .int 181 0, .ref 725, .none, .none, .none, .none, .int 1182 0, .int 831 0, vs "/claim/cut.py" 1183],
  oR [some (.ref 726), some (.ref 3), some (.ref 723), none, some (vs "moduleyard.errors" 1175), none, some (.ref 0)]],
  dO (metAt 119 0) "__init__" "ErrorList.__init__" 833 1 3 1189 728 ["self"] (vs "moduleyard.errors" 1175) (.none),
  dO (metAt 119 1) "mark" "ErrorList.mark" 837 3 3 1196 735 ["self", "place", "code"] (vs "moduleyard.errors" 1175) (.none),
  dO (metAt 119 2) "first" "ErrorList.first" 842 1 3 1205 742 ["self"] (vs "moduleyard.errors" 1175) (.none),
  dO (metAt 119 3) "ok" "ErrorList.ok" 847 1 3 1212 749 ["self"] (vs "moduleyard.errors" 1175) (.none),
  [oT [vs "places" 1219, vs "rows" 1220],
  oD [de P "__module__" 1184 (vs "moduleyard.errors" 1175), de P "__firstlineno__" 1188 (.int 831 1187), de P "__init__" 1195 (.ref 734), de P "mark" 1204 (.ref 741), de P "first" 1211 (.ref 748), de P "ok" 1218 (.ref 755), de P "__static_attributes__" 1221 (.ref 756), de P "__dict__" 1223 (.ref 759), de P "__weakref__" 1225 (.ref 760), de P "__doc__" 1226 (.none)] 4,
  oY "ErrorList" [.type "object"] [.ref 758, .type "object"] 757 "ErrorList" [none, none, some (vs "ErrorList" 1177), some (vs "ErrorList" 1185), some (.builtin "object.__new__"), some (.bool true)],
  oM "getset_descriptor" [vs "__dict__" 1222, .ref 758, .builtin "function.__dict__", .builtin "function.__dict__#set"],
  oM "getset_descriptor" [vs "__weakref__" 1224, .ref 758, .builtin "ExceptionGroup.__weakref__", .none],
  oM "super" [.ref 758, .ref 758, .ref 758],
  oM "builtin_function_or_method" [.builtin "object.__init_subclass__", .ref 758]]]
noncomputable def hG9 (P : Params) : List DictEntry := (hG8 P).set 0 (de P "__name__" 165 (vs "moduleyard.scanner" 1229)) ++ [de P "ErrorList" 1228 (.ref 758), de P "MOST_INTEGER" 1232 (.int 2147483647 1231), de P "MOST_WORD" 1234 (.int 4294967295 1233)]
noncomputable def hR9 : List Value := hR8 ++ [.int 831 0, .int 0 0, .ref 726]
noncomputable def hT9 (P : Params) : BT := hstT P (hG9 P) 116 hR9 (hL1 P ++ (hL2 P ++ (hL3 P ++ (hL4 P ++ (hL5 P ++ (hL6 P ++ (hL7 P ++ (hL8 P ++ (hL9 P)))))))))
noncomputable def hS9 (w : World) (os : OsState) : SharedT := hstS w os (hT9 w.params) 763 1235
theorem p9 (w : World) (os : OsState) : segRunT treeTable PW w 11 annV 1 354 (hS8 w os) (piecesOf ((bodyT.drop 118).take 5) envT (.body bodyT envT) ⟨825, 0, 829, 71⟩ [topFrame posQ]) = some (.next, hS9 w os, .body bodyT envT, ⟨851, 0, 851, 9⟩) := by rw [teSeg, teTab]; kernel_rfl
noncomputable def hL10 (P : Params) : List Obj := cat [[oT [],
  oM "builtin_function_or_method" [.builtin "type.__prepare__", .type "type"],
  oD [de P "__module__" 1242 (vs "moduleyard.scanner" 1229), de P "__qualname__" 1244 (vs "Token" 1243), de P "__firstlineno__" 1246 (.int 852 1245), de P "__init__" 1256 (.ref 776), de P "__static_attributes__" 1260 (.ref 777)] 5,
  oT [],
  oF [.int 854 0, .int 4 0, .ref 775],
  oM "code" [vs "Token" 1237, vs "Token" 1238, vs "/claim/cut.py" 1239, .int 852 0, .int 0 0, .int 0 0, .int 0 0, .int 0 0, .ref 766, .bool false, .int 181 0, .ref 767, .none, .none, .none, .none, .int 1240 0, .int 852 0, vs "/claim/cut.py" 1241],
  oR [some (.ref 768), some (.ref 3), some (.ref 765), none, some (vs "moduleyard.scanner" 1229), none, some (.ref 0)]],
  dO (metAt 123 0) "__init__" "Token.__init__" 854 4 3 1247 770 ["self", "kind", "value", "place"] (vs "moduleyard.scanner" 1229) (.none),
  [oT [vs "kind" 1257, vs "place" 1258, vs "value" 1259],
  oD [de P "__module__" 1242 (vs "moduleyard.scanner" 1229), de P "__firstlineno__" 1246 (.int 852 1245), de P "__init__" 1256 (.ref 776), de P "__static_attributes__" 1260 (.ref 777), de P "__dict__" 1262 (.ref 780), de P "__weakref__" 1264 (.ref 781), de P "__doc__" 1265 (.none)] 4,
  oY "Token" [.type "object"] [.ref 779, .type "object"] 778 "Token" [none, none, some (vs "Token" 1235), some (vs "Token" 1243), some (.builtin "object.__new__"), some (.bool true)],
  oM "getset_descriptor" [vs "__dict__" 1261, .ref 779, .builtin "function.__dict__", .builtin "function.__dict__#set"],
  oM "getset_descriptor" [vs "__weakref__" 1263, .ref 779, .builtin "ExceptionGroup.__weakref__", .none],
  oM "super" [.ref 779, .ref 779, .ref 779],
  oM "builtin_function_or_method" [.builtin "object.__init_subclass__", .ref 779]],
  dO (topAt 124) "keywords" "keywords" 858 0 3 1268 784 [] (vs "moduleyard.scanner" 1229) (.none),
  dO (topAt 125) "is_letter" "is_letter" 860 1 3 1274 791 ["char"] (vs "moduleyard.scanner" 1229) (.none),
  dO (topAt 127) "is_digit" "is_digit" 863 1 3 1282 798 ["char"] (vs "moduleyard.scanner" 1229) (.none),
  dO (topAt 128) "is_hex_digit" "is_hex_digit" 865 1 3 1289 805 ["char"] (vs "moduleyard.scanner" 1229) (.none),
  dO (topAt 129) "digits_value" "digits_value" 867 3 3 1296 812 ["digits", "base", "most", "value", "digit"] (vs "moduleyard.scanner" 1229) (.none)]
noncomputable def hG10 (P : Params) : List DictEntry := (hG9 P).set 64 (de P "is_letter" 732 (.ref 797)) ++ [de P "Token" 1267 (.ref 779), de P "keywords" 1273 (.ref 790), de P "is_letter_scanner" 1281 (.ref 797), de P "is_digit" 1288 (.ref 804), de P "is_hex_digit" 1295 (.ref 811), de P "digits_value" 1306 (.ref 818)]
noncomputable def hR10 : List Value := hR9 ++ [.int 852 0, .int 0 0, .ref 768, .int 858 0, .int 0 0, .ref 789, .int 860 0, .int 0 0, .ref 796, .int 863 0, .int 0 0, .ref 803, .int 865 0, .int 0 0, .ref 810, .int 867 0, .int 0 0, .ref 817]
noncomputable def hT10 (P : Params) : BT := hstT P (hG10 P) 122 hR10 (hL1 P ++ (hL2 P ++ (hL3 P ++ (hL4 P ++ (hL5 P ++ (hL6 P ++ (hL7 P ++ (hL8 P ++ (hL9 P ++ (hL10 P))))))))))
noncomputable def hS10 (w : World) (os : OsState) : SharedT := hstS w os (hT10 w.params) 819 1307
theorem p10 (w : World) (os : OsState) : segRunT treeTable PW w 11 annV 1 385 (hS9 w os) (piecesOf ((bodyT.drop 123).take 7) envT (.body bodyT envT) ⟨851, 0, 851, 9⟩ [topFrame posQ]) = some (.next, hS10 w os, .body bodyT envT, ⟨867, 0, 873, 16⟩) := by rw [teSeg, teTab]; kernel_rfl
noncomputable def hL11 (P : Params) : List Obj := cat [[oT [],
  oM "builtin_function_or_method" [.builtin "type.__prepare__", .type "type"],
  oD [de P "__module__" 1314 (vs "moduleyard.scanner" 1229), de P "__qualname__" 1316 (vs "Scanner" 1315), de P "__firstlineno__" 1318 (.int 874 1317), de P "__init__" 1327 (.ref 832), de P "char" 1336 (.ref 840), de P "take" 1346 (.ref 847), de P "skip" 1354 (.ref 854), de P "remark" 1364 (.ref 861), de P "word" 1374 (.ref 868), de P "numeral" 1386 (.ref 875), de P "whole" 1396 (.ref 882), de P "hexadecimal" 1406 (.ref 889), de P "character" 1416 (.ref 896), de P "real" 1425 (.ref 903), de P "skip_digits" 1432 (.ref 910), de P "string" 1442 (.ref 917), de P "symbol" 1450 (.ref 924), de P "__static_attributes__" 1455 (.ref 925)] 18,
  oT [],
  oF [.int 876 0, .int 4 0, .ref 831, .int 882 0, .int 4 0, .ref 839, .int 885 0, .int 4 0, .ref 846, .int 905 0, .int 4 0, .ref 853, .int 915 0, .int 4 0, .ref 860, .int 933 0, .int 4 0, .ref 867, .int 943 0, .int 4 0, .ref 874, .int 963 0, .int 4 0, .ref 881, .int 969 0, .int 4 0, .ref 888, .int 975 0, .int 4 0, .ref 895, .int 982 0, .int 4 0, .ref 902, .int 995 0, .int 4 0, .ref 909, .int 999 0, .int 4 0, .ref 916, .int 1015 0, .int 4 0, .ref 923],
  oM "code" [vs "Scanner" 1309, vs "Scanner" 1310, vs "/claim/cut.py" 1311, .int 874 0, .int 0 0, .int 0 0, .int 0 0, .int 0 0, .ref 822, .bool false, .int 181 0, .ref 823, .none, .none, .none, .none, .int 1312 0, .int 874 0, vs "/claim/cut.py" 1313],
  oR [some (.ref 824), some (.ref 3), some (.ref 821), none, some (vs "moduleyard.scanner" 1229), none, some (.ref 0)]],
  dO (metAt 130 0) "__init__" "Scanner.__init__" 876 3 3 1319 826 ["self", "source", "errors"] (vs "moduleyard.scanner" 1229) (.none),
  [oT [.int 0 1328]],
  dO (metAt 130 1) "char" "Scanner.char" 882 2 3 1329 834 ["self", "ahead"] (vs "moduleyard.scanner" 1229) (.ref 833),
  dO (metAt 130 2) "take" "Scanner.take" 885 1 3 1337 841 ["self", "begun", "char", "symbol"] (vs "moduleyard.scanner" 1229) (.none),
  dO (metAt 130 3) "skip" "Scanner.skip" 905 1 3 1347 848 ["self", "char"] (vs "moduleyard.scanner" 1229) (.none),
  dO (metAt 130 4) "remark" "Scanner.remark" 915 1 3 1355 855 ["self", "begun", "depth", "pair"] (vs "moduleyard.scanner" 1229) (.none),
  dO (metAt 130 5) "word" "Scanner.word" 933 2 3 1365 862 ["self", "begun", "end", "name"] (vs "moduleyard.scanner" 1229) (.none),
  dO (metAt 130 6) "numeral" "Scanner.numeral" 943 2 3 1375 869 ["self", "begun", "end", "digits", "ending", "value"] (vs "moduleyard.scanner" 1229) (.none),
  dO (metAt 130 7) "whole" "Scanner.whole" 963 4 3 1387 876 ["self", "begun", "value", "most"] (vs "moduleyard.scanner" 1229) (.none),
  dO (metAt 130 8) "hexadecimal" "Scanner.hexadecimal" 969 3 3 1397 883 ["self", "begun", "digits", "token"] (vs "moduleyard.scanner" 1229) (.none),
  dO (metAt 130 9) "character" "Scanner.character" 975 3 3 1407 890 ["self", "begun", "digits", "value"] (vs "moduleyard.scanner" 1229) (.none),
  dO (metAt 130 10) "real" "Scanner.real" 982 2 3 1417 897 ["self", "begun", "sign"] (vs "moduleyard.scanner" 1229) (.none),
  dO (metAt 130 11) "skip_digits" "Scanner.skip_digits" 995 1 3 1426 904 ["self"] (vs "moduleyard.scanner" 1229) (.none),
  dO (metAt 130 12) "string" "Scanner.string" 999 2 3 1433 911 ["self", "begun", "chars", "char"] (vs "moduleyard.scanner" 1229) (.none),
  dO (metAt 130 13) "symbol" "Scanner.symbol" 1015 1 3 1443 918 ["self", "pair"] (vs "moduleyard.scanner" 1229) (.none),
  [oT [vs "errors" 1451, vs "place" 1452, vs "source" 1453, vs "words" 1454],
  oD [de P "__module__" 1314 (vs "moduleyard.scanner" 1229), de P "__firstlineno__" 1318 (.int 874 1317), de P "__init__" 1327 (.ref 832), de P "char" 1336 (.ref 840), de P "take" 1346 (.ref 847), de P "skip" 1354 (.ref 854), de P "remark" 1364 (.ref 861), de P "word" 1374 (.ref 868), de P "numeral" 1386 (.ref 875), de P "whole" 1396 (.ref 882), de P "hexadecimal" 1406 (.ref 889), de P "character" 1416 (.ref 896), de P "real" 1425 (.ref 903), de P "skip_digits" 1432 (.ref 910), de P "string" 1442 (.ref 917), de P "symbol" 1450 (.ref 924), de P "__static_attributes__" 1455 (.ref 925), de P "__dict__" 1457 (.ref 928), de P "__weakref__" 1459 (.ref 929), de P "__doc__" 1460 (.none)] 4,
  oY "Scanner" [.type "object"] [.ref 927, .type "object"] 926 "Scanner" [none, none, some (vs "Scanner" 1307), some (vs "Scanner" 1315), some (.builtin "object.__new__"), some (.bool true)],
  oM "getset_descriptor" [vs "__dict__" 1456, .ref 927, .builtin "function.__dict__", .builtin "function.__dict__#set"],
  oM "getset_descriptor" [vs "__weakref__" 1458, .ref 927, .builtin "ExceptionGroup.__weakref__", .none],
  oM "super" [.ref 927, .ref 927, .ref 927],
  oM "builtin_function_or_method" [.builtin "object.__init_subclass__", .ref 927]]]
noncomputable def hG11 (P : Params) : List DictEntry := hG10 P ++ [de P "Scanner" 1462 (.ref 927)]
noncomputable def hR11 : List Value := hR10 ++ [.int 874 0, .int 0 0, .ref 824]
noncomputable def hT11 (P : Params) : BT := hstT P (hG11 P) 123 hR11 (hL1 P ++ (hL2 P ++ (hL3 P ++ (hL4 P ++ (hL5 P ++ (hL6 P ++ (hL7 P ++ (hL8 P ++ (hL9 P ++ (hL10 P ++ (hL11 P)))))))))))
noncomputable def hS11 (w : World) (os : OsState) : SharedT := hstS w os (hT11 w.params) 932 1463
theorem p11 (w : World) (os : OsState) : segRunT treeTable PW w 11 annV 1 663 (hS10 w os) (piecesOf ((bodyT.drop 130).take 1) envT (.body bodyT envT) ⟨867, 0, 873, 16⟩ [topFrame posQ]) = some (.next, hS11 w os, .body bodyT envT, ⟨874, 0, 1021, 17⟩) := by rw [teSeg, teTab]; kernel_rfl
noncomputable def hL12 (P : Params) : List Obj := cat [[oT [],
  oM "builtin_function_or_method" [.builtin "type.__prepare__", .type "type"],
  oD [de P "__module__" 1472 (vs "moduleyard.types" 1463), de P "__qualname__" 1474 (vs "Type" 1473), de P "__firstlineno__" 1476 (.int 1023 1475), de P "__init__" 1486 (.ref 945), de P "__static_attributes__" 1499 (.ref 946)] 5,
  oT [],
  oF [.int 1025 0, .int 4 0, .ref 944],
  oM "code" [vs "Type" 1467, vs "Type" 1468, vs "/claim/cut.py" 1469, .int 1023 0, .int 0 0, .int 0 0, .int 0 0, .int 0 0, .ref 935, .bool false, .int 181 0, .ref 936, .none, .none, .none, .none, .int 1470 0, .int 1023 0, vs "/claim/cut.py" 1471],
  oR [some (.ref 937), some (.ref 3), some (.ref 934), none, some (vs "moduleyard.types" 1463), none, some (.ref 0)]],
  dO (metAt 132 0) "__init__" "Type.__init__" 1025 4 3 1477 939 ["self", "number", "form", "size"] (vs "moduleyard.types" 1463) (.none),
  [oT [vs "base" 1487, vs "exno" 1488, vs "fields" 1489, vs "form" 1490, vs "hidden" 1491, vs "label" 1492, vs "length" 1493, vs "level" 1494, vs "module" 1495, vs "number" 1496, vs "params" 1497, vs "size" 1498],
  oD [de P "__module__" 1472 (vs "moduleyard.types" 1463), de P "__firstlineno__" 1476 (.int 1023 1475), de P "__init__" 1486 (.ref 945), de P "__static_attributes__" 1499 (.ref 946), de P "__dict__" 1501 (.ref 949), de P "__weakref__" 1503 (.ref 950), de P "__doc__" 1504 (.none)] 4,
  oY "Type" [.type "object"] [.ref 948, .type "object"] 947 "Type" [none, none, some (vs "Type" 1465), some (vs "Type" 1473), some (.builtin "object.__new__"), some (.bool true)],
  oM "getset_descriptor" [vs "__dict__" 1500, .ref 948, .builtin "function.__dict__", .builtin "function.__dict__#set"],
  oM "getset_descriptor" [vs "__weakref__" 1502, .ref 948, .builtin "ExceptionGroup.__weakref__", .none],
  oM "super" [.ref 948, .ref 948, .ref 948],
  oM "builtin_function_or_method" [.builtin "object.__init_subclass__", .ref 948]]]
noncomputable def hG12 (P : Params) : List DictEntry := (hG11 P).set 0 (de P "__name__" 165 (vs "moduleyard.types" 1463)) ++ [de P "Type" 1506 (.ref 948)]
noncomputable def hR12 : List Value := hR11 ++ [.int 1023 0, .int 0 0, .ref 937]
noncomputable def hT12 (P : Params) : BT := hstT P (hG12 P) 124 hR12 (hL1 P ++ (hL2 P ++ (hL3 P ++ (hL4 P ++ (hL5 P ++ (hL6 P ++ (hL7 P ++ (hL8 P ++ (hL9 P ++ (hL10 P ++ (hL11 P ++ (hL12 P))))))))))))
noncomputable def hS12 (w : World) (os : OsState) : SharedT := hstS w os (hT12 w.params) 953 1507
theorem p12 (w : World) (os : OsState) : segRunT treeTable PW w 11 annV 1 245 (hS11 w os) (piecesOf ((bodyT.drop 131).take 2) envT (.body bodyT envT) ⟨874, 0, 1021, 17⟩ [topFrame posQ]) = some (.next, hS12 w os, .body bodyT envT, ⟨1023, 0, 1037, 21⟩) := by rw [teSeg, teTab]; kernel_rfl
noncomputable def hL13 (P : Params) : List Obj := cat [[oT [],
  oM "builtin_function_or_method" [.builtin "type.__prepare__", .type "type"],
  oD [de P "__module__" 1514 (vs "moduleyard.types" 1463), de P "__qualname__" 1516 (vs "Obj" 1515), de P "__firstlineno__" 1518 (.int 1038 1517), de P "__init__" 1529 (.ref 966), de P "__static_attributes__" 1544 (.ref 967)] 5,
  oT [],
  oF [.int 1040 0, .int 4 0, .ref 965],
  oM "code" [vs "Obj" 1509, vs "Obj" 1510, vs "/claim/cut.py" 1511, .int 1038 0, .int 0 0, .int 0 0, .int 0 0, .int 0 0, .ref 956, .bool false, .int 181 0, .ref 957, .none, .none, .none, .none, .int 1512 0, .int 1038 0, vs "/claim/cut.py" 1513],
  oR [some (.ref 958), some (.ref 3), some (.ref 955), none, some (vs "moduleyard.types" 1463), none, some (.ref 0)]],
  dO (metAt 133 0) "__init__" "Obj.__init__" 1040 5 3 1519 960 ["self", "name", "kind", "type_of", "place"] (vs "moduleyard.types" 1463) (.none),
  [oT [vs "exported" 1530, vs "isparam" 1531, vs "kind" 1532, vs "level" 1533, vs "module" 1534, vs "name" 1535, vs "narrowed" 1536, vs "number" 1537, vs "offset" 1538, vs "place" 1539, vs "readonly" 1540, vs "slot" 1541, vs "type" 1542, vs "value" 1543],
  oD [de P "__module__" 1514 (vs "moduleyard.types" 1463), de P "__firstlineno__" 1518 (.int 1038 1517), de P "__init__" 1529 (.ref 966), de P "__static_attributes__" 1544 (.ref 967), de P "__dict__" 1546 (.ref 970), de P "__weakref__" 1548 (.ref 971), de P "__doc__" 1549 (.none)] 4,
  oY "Obj" [.type "object"] [.ref 969, .type "object"] 968 "Obj" [none, none, some (vs "Obj" 1507), some (vs "Obj" 1515), some (.builtin "object.__new__"), some (.bool true)],
  oM "getset_descriptor" [vs "__dict__" 1545, .ref 969, .builtin "function.__dict__", .builtin "function.__dict__#set"],
  oM "getset_descriptor" [vs "__weakref__" 1547, .ref 969, .builtin "ExceptionGroup.__weakref__", .none],
  oM "super" [.ref 969, .ref 969, .ref 969],
  oM "builtin_function_or_method" [.builtin "object.__init_subclass__", .ref 969]]]
noncomputable def hG13 (P : Params) : List DictEntry := hG12 P ++ [de P "Obj" 1551 (.ref 969)]
noncomputable def hR13 : List Value := hR12 ++ [.int 1038 0, .int 0 0, .ref 958]
noncomputable def hT13 (P : Params) : BT := hstT P (hG13 P) 125 hR13 (hL1 P ++ (hL2 P ++ (hL3 P ++ (hL4 P ++ (hL5 P ++ (hL6 P ++ (hL7 P ++ (hL8 P ++ (hL9 P ++ (hL10 P ++ (hL11 P ++ (hL12 P ++ (hL13 P)))))))))))))
noncomputable def hS13 (w : World) (os : OsState) : SharedT := hstS w os (hT13 w.params) 974 1552
theorem p13 (w : World) (os : OsState) : segRunT treeTable PW w 11 annV 1 239 (hS12 w os) (piecesOf ((bodyT.drop 133).take 1) envT (.body bodyT envT) ⟨1023, 0, 1037, 21⟩ [topFrame posQ]) = some (.next, hS13 w os, .body bodyT envT, ⟨1038, 0, 1054, 28⟩) := by rw [teSeg, teTab]; kernel_rfl
noncomputable def hL14 (P : Params) : List Obj := cat [[oT [],
  oM "builtin_function_or_method" [.builtin "type.__prepare__", .type "type"],
  oD [de P "__module__" 1559 (vs "moduleyard.types" 1463), de P "__qualname__" 1561 (vs "Types" 1560), de P "__firstlineno__" 1563 (.int 1055 1562), de P "__init__" 1570 (.ref 987), de P "new" 1584 (.ref 995), de P "string" 1593 (.ref 1002), de P "__static_attributes__" 1603 (.ref 1003)] 7,
  oT [],
  oF [.int 1057 0, .int 4 0, .ref 986, .int 1068 0, .int 4 0, .ref 994, .int 1077 0, .int 4 0, .ref 1001],
  oM "code" [vs "Types" 1554, vs "Types" 1555, vs "/claim/cut.py" 1556, .int 1055 0, .int 0 0, .int 0 0, .int 0 0, .int 0 0, .ref 977, .bool false, .int 181 0, .ref 978, .none, .none, .none, .none, .int 1557 0, .int 1055 0, vs "/claim/cut.py" 1558],
  oR [some (.ref 979), some (.ref 3), some (.ref 976), none, some (vs "moduleyard.types" 1463), none, some (.ref 0)]],
  dO (metAt 134 0) "__init__" "Types.__init__" 1057 1 3 1564 981 ["self"] (vs "moduleyard.types" 1463) (.none),
  [oT [vs "" 1571, vs "" 1572]],
  dO (metAt 134 1) "new" "Types.new" 1068 5 3 1573 989 ["self", "form", "size", "module", "label", "made"] (vs "moduleyard.types" 1463) (.ref 988),
  dO (metAt 134 2) "string" "Types.string" 1077 2 3 1585 996 ["self", "length", "made"] (vs "moduleyard.types" 1463) (.none),
  [oT [vs "boolean" 1594, vs "byte" 1595, vs "char" 1596, vs "counter" 1597, vs "integer" 1598, vs "known" 1599, vs "mask" 1600, vs "nil" 1601, vs "none" 1602],
  oD [de P "__module__" 1559 (vs "moduleyard.types" 1463), de P "__firstlineno__" 1563 (.int 1055 1562), de P "__init__" 1570 (.ref 987), de P "new" 1584 (.ref 995), de P "string" 1593 (.ref 1002), de P "__static_attributes__" 1603 (.ref 1003), de P "__dict__" 1605 (.ref 1006), de P "__weakref__" 1607 (.ref 1007), de P "__doc__" 1608 (.none)] 4,
  oY "Types" [.type "object"] [.ref 1005, .type "object"] 1004 "Types" [none, none, some (vs "Types" 1552), some (vs "Types" 1560), some (.builtin "object.__new__"), some (.bool true)],
  oM "getset_descriptor" [vs "__dict__" 1604, .ref 1005, .builtin "function.__dict__", .builtin "function.__dict__#set"],
  oM "getset_descriptor" [vs "__weakref__" 1606, .ref 1005, .builtin "ExceptionGroup.__weakref__", .none],
  oM "super" [.ref 1005, .ref 1005, .ref 1005],
  oM "builtin_function_or_method" [.builtin "object.__init_subclass__", .ref 1005]]]
noncomputable def hG14 (P : Params) : List DictEntry := (hG13 P).set 0 (de P "__name__" 165 (vs "moduleyard.scopes" 1611)) ++ [de P "Types" 1610 (.ref 1005)]
noncomputable def hR14 : List Value := hR13 ++ [.int 1055 0, .int 0 0, .ref 979]
noncomputable def hT14 (P : Params) : BT := hstT P (hG14 P) 126 hR14 (hL1 P ++ (hL2 P ++ (hL3 P ++ (hL4 P ++ (hL5 P ++ (hL6 P ++ (hL7 P ++ (hL8 P ++ (hL9 P ++ (hL10 P ++ (hL11 P ++ (hL12 P ++ (hL13 P ++ (hL14 P))))))))))))))
noncomputable def hS14 (w : World) (os : OsState) : SharedT := hstS w os (hT14 w.params) 1010 1613
theorem p14 (w : World) (os : OsState) : segRunT treeTable PW w 11 annV 1 311 (hS13 w os) (piecesOf ((bodyT.drop 134).take 2) envT (.body bodyT envT) ⟨1038, 0, 1054, 28⟩ [topFrame posQ]) = some (.next, hS14 w os, .body bodyT envT, ⟨1082, 0, 1082, 8⟩) := by rw [teSeg, teTab]; kernel_rfl
noncomputable def hL15 (P : Params) : List Obj := cat [[oT [],
  oM "builtin_function_or_method" [.builtin "type.__prepare__", .type "type"],
  oD [de P "__module__" 1620 (vs "moduleyard.scopes" 1611), de P "__qualname__" 1622 (vs "Scope" 1621), de P "__firstlineno__" 1624 (.int 1083 1623), de P "__init__" 1633 (.ref 1023), de P "__static_attributes__" 1639 (.ref 1024)] 5,
  oT [],
  oF [.int 1085 0, .int 4 0, .ref 1022],
  oM "code" [vs "Scope" 1615, vs "Scope" 1616, vs "/claim/cut.py" 1617, .int 1083 0, .int 0 0, .int 0 0, .int 0 0, .int 0 0, .ref 1013, .bool false, .int 181 0, .ref 1014, .none, .none, .none, .none, .int 1618 0, .int 1083 0, vs "/claim/cut.py" 1619],
  oR [some (.ref 1015), some (.ref 3), some (.ref 1012), none, some (vs "moduleyard.scopes" 1611), none, some (.ref 0)]],
  dO (metAt 136 0) "__init__" "Scope.__init__" 1085 3 3 1625 1017 ["self", "level", "label"] (vs "moduleyard.scopes" 1611) (.none),
  [oT [vs "label" 1634, vs "level" 1635, vs "names" 1636, vs "order" 1637, vs "slots" 1638],
  oD [de P "__module__" 1620 (vs "moduleyard.scopes" 1611), de P "__firstlineno__" 1624 (.int 1083 1623), de P "__init__" 1633 (.ref 1023), de P "__static_attributes__" 1639 (.ref 1024), de P "__dict__" 1641 (.ref 1027), de P "__weakref__" 1643 (.ref 1028), de P "__doc__" 1644 (.none)] 4,
  oY "Scope" [.type "object"] [.ref 1026, .type "object"] 1025 "Scope" [none, none, some (vs "Scope" 1613), some (vs "Scope" 1621), some (.builtin "object.__new__"), some (.bool true)],
  oM "getset_descriptor" [vs "__dict__" 1640, .ref 1026, .builtin "function.__dict__", .builtin "function.__dict__#set"],
  oM "getset_descriptor" [vs "__weakref__" 1642, .ref 1026, .builtin "ExceptionGroup.__weakref__", .none],
  oM "super" [.ref 1026, .ref 1026, .ref 1026],
  oM "builtin_function_or_method" [.builtin "object.__init_subclass__", .ref 1026]]]
noncomputable def hG15 (P : Params) : List DictEntry := hG14 P ++ [de P "Scope" 1646 (.ref 1026)]
noncomputable def hR15 : List Value := hR14 ++ [.int 1083 0, .int 0 0, .ref 1015]
noncomputable def hT15 (P : Params) : BT := hstT P (hG15 P) 127 hR15 (hL1 P ++ (hL2 P ++ (hL3 P ++ (hL4 P ++ (hL5 P ++ (hL6 P ++ (hL7 P ++ (hL8 P ++ (hL9 P ++ (hL10 P ++ (hL11 P ++ (hL12 P ++ (hL13 P ++ (hL14 P ++ (hL15 P)))))))))))))))
noncomputable def hS15 (w : World) (os : OsState) : SharedT := hstS w os (hT15 w.params) 1031 1647
theorem p15 (w : World) (os : OsState) : segRunT treeTable PW w 11 annV 1 228 (hS14 w os) (piecesOf ((bodyT.drop 136).take 1) envT (.body bodyT envT) ⟨1082, 0, 1082, 8⟩ [topFrame posQ]) = some (.next, hS15 w os, .body bodyT envT, ⟨1083, 0, 1090, 22⟩) := by rw [teSeg, teTab]; kernel_rfl
noncomputable def hL16 (P : Params) : List Obj := cat [[oT [],
  oM "builtin_function_or_method" [.builtin "type.__prepare__", .type "type"],
  oD [de P "__module__" 1654 (vs "moduleyard.scopes" 1611), de P "__qualname__" 1656 (vs "Scopes" 1655), de P "__firstlineno__" 1658 (.int 1091 1657), de P "__init__" 1667 (.ref 1044), de P "open" 1676 (.ref 1051), de P "close" 1684 (.ref 1058), de P "current" 1691 (.ref 1065), de P "add" 1700 (.ref 1072), de P "insert" 1712 (.ref 1079), de P "find" 1721 (.ref 1086), de P "__static_attributes__" 1726 (.ref 1087)] 11,
  oT [],
  oF [.int 1093 0, .int 4 0, .ref 1043, .int 1099 0, .int 4 0, .ref 1050, .int 1105 0, .int 4 0, .ref 1057, .int 1110 0, .int 4 0, .ref 1064, .int 1113 0, .int 4 0, .ref 1071, .int 1124 0, .int 4 0, .ref 1078, .int 1133 0, .int 4 0, .ref 1085],
  oM "code" [vs "Scopes" 1649, vs "Scopes" 1650, vs "/claim/cut.py" 1651, .int 1091 0, .int 0 0, .int 0 0, .int 0 0, .int 0 0, .ref 1034, .bool false, .int 181 0, .ref 1035, .none, .none, .none, .none, .int 1652 0, .int 1091 0, vs "/claim/cut.py" 1653],
  oR [some (.ref 1036), some (.ref 3), some (.ref 1033), none, some (vs "moduleyard.scopes" 1611), none, some (.ref 0)]],
  dO (metAt 137 0) "__init__" "Scopes.__init__" 1093 3 3 1659 1038 ["self", "types", "module"] (vs "moduleyard.scopes" 1611) (.none),
  dO (metAt 137 1) "open" "Scopes.open" 1099 2 3 1668 1045 ["self", "label", "scope"] (vs "moduleyard.scopes" 1611) (.none),
  dO (metAt 137 2) "close" "Scopes.close" 1105 1 3 1677 1052 ["self", "scope"] (vs "moduleyard.scopes" 1611) (.none),
  dO (metAt 137 3) "current" "Scopes.current" 1110 1 3 1685 1059 ["self"] (vs "moduleyard.scopes" 1611) (.none),
  dO (metAt 137 4) "add" "Scopes.add" 1113 2 3 1692 1066 ["self", "obj", "scope"] (vs "moduleyard.scopes" 1611) (.none),
  dO (metAt 137 5) "insert" "Scopes.insert" 1124 5 3 1701 1073 ["self", "name", "kind", "t", "place", "obj"] (vs "moduleyard.scopes" 1611) (.none),
  dO (metAt 137 6) "find" "Scopes.find" 1133 2 3 1713 1080 ["self", "name", "scope"] (vs "moduleyard.scopes" 1611) (.none),
  [oT [vs "level" 1722, vs "module" 1723, vs "stack" 1724, vs "types" 1725],
  oD [de P "__module__" 1654 (vs "moduleyard.scopes" 1611), de P "__firstlineno__" 1658 (.int 1091 1657), de P "__init__" 1667 (.ref 1044), de P "open" 1676 (.ref 1051), de P "close" 1684 (.ref 1058), de P "current" 1691 (.ref 1065), de P "add" 1700 (.ref 1072), de P "insert" 1712 (.ref 1079), de P "find" 1721 (.ref 1086), de P "__static_attributes__" 1726 (.ref 1087), de P "__dict__" 1728 (.ref 1090), de P "__weakref__" 1730 (.ref 1091), de P "__doc__" 1731 (.none)] 4,
  oY "Scopes" [.type "object"] [.ref 1089, .type "object"] 1088 "Scopes" [none, none, some (vs "Scopes" 1647), some (vs "Scopes" 1655), some (.builtin "object.__new__"), some (.bool true)],
  oM "getset_descriptor" [vs "__dict__" 1727, .ref 1089, .builtin "function.__dict__", .builtin "function.__dict__#set"],
  oM "getset_descriptor" [vs "__weakref__" 1729, .ref 1089, .builtin "ExceptionGroup.__weakref__", .none],
  oM "super" [.ref 1089, .ref 1089, .ref 1089],
  oM "builtin_function_or_method" [.builtin "object.__init_subclass__", .ref 1089]]]
noncomputable def hG16 (P : Params) : List DictEntry := (hG15 P).set 0 (de P "__name__" 165 (vs "moduleyard.universe" 1734)) ++ [de P "Scopes" 1733 (.ref 1089)]
noncomputable def hR16 : List Value := hR15 ++ [.int 1091 0, .int 0 0, .ref 1036]
noncomputable def hT16 (P : Params) : BT := hstT P (hG16 P) 128 hR16 (hL1 P ++ (hL2 P ++ (hL3 P ++ (hL4 P ++ (hL5 P ++ (hL6 P ++ (hL7 P ++ (hL8 P ++ (hL9 P ++ (hL10 P ++ (hL11 P ++ (hL12 P ++ (hL13 P ++ (hL14 P ++ (hL15 P ++ (hL16 P))))))))))))))))
noncomputable def hS16 (w : World) (os : OsState) : SharedT := hstS w os (hT16 w.params) 1094 1736
theorem p16 (w : World) (os : OsState) : segRunT treeTable PW w 11 annV 1 434 (hS15 w os) (piecesOf ((bodyT.drop 137).take 2) envT (.body bodyT envT) ⟨1083, 0, 1090, 22⟩ [topFrame posQ]) = some (.next, hS16 w os, .body bodyT envT, ⟨1138, 0, 1138, 8⟩) := by rw [teSeg, teTab]; kernel_rfl
noncomputable def hL17 (P : Params) : List Obj := cat [dO (topAt 139) "std_functions" "std_functions" 1139 0 3 1736 1094 [] (vs "moduleyard.universe" 1734) (.none),
  dO (topAt 140) "std_procedures" "std_procedures" 1141 0 3 1742 1101 [] (vs "moduleyard.universe" 1734) (.none),
  dO (topAt 141) "fill" "fill" 1143 1 3 1748 1108 ["scopes", "types", "name"] (vs "moduleyard.universe" 1734) (.none)]
noncomputable def hG17 (P : Params) : List DictEntry := (hG16 P).set 0 (de P "__name__" 165 (vs "moduleyard.reader" 1757)) ++ [de P "std_functions" 1741 (.ref 1100), de P "std_procedures" 1747 (.ref 1107), de P "fill" 1756 (.ref 1114)]
noncomputable def hR17 : List Value := hR16 ++ [.int 1139 0, .int 0 0, .ref 1099, .int 1141 0, .int 0 0, .ref 1106, .int 1143 0, .int 0 0, .ref 1113]
noncomputable def hT17 (P : Params) : BT := hstT P (hG17 P) 131 hR17 (hL1 P ++ (hL2 P ++ (hL3 P ++ (hL4 P ++ (hL5 P ++ (hL6 P ++ (hL7 P ++ (hL8 P ++ (hL9 P ++ (hL10 P ++ (hL11 P ++ (hL12 P ++ (hL13 P ++ (hL14 P ++ (hL15 P ++ (hL16 P ++ (hL17 P)))))))))))))))))
noncomputable def hS17 (w : World) (os : OsState) : SharedT := hstS w os (hT17 w.params) 1115 1759
theorem p17 (w : World) (os : OsState) : segRunT treeTable PW w 11 annV 1 97 (hS16 w os) (piecesOf ((bodyT.drop 139).take 4) envT (.body bodyT envT) ⟨1138, 0, 1138, 8⟩ [topFrame posQ]) = some (.next, hS17 w os, .body bodyT envT, ⟨1154, 0, 1154, 8⟩) := by rw [teSeg, teTab]; kernel_rfl
noncomputable def hL18 (P : Params) : List Obj := cat [[oT [],
  oM "builtin_function_or_method" [.builtin "type.__prepare__", .type "type"],
  oD [de P "__module__" 1766 (vs "moduleyard.reader" 1757), de P "__qualname__" 1768 (vs "Reader" 1767), de P "__firstlineno__" 1770 (.int 1155 1769), de P "__init__" 1781 (.ref 1129), de P "step" 1789 (.ref 1136), de P "at" 1797 (.ref 1143), de P "skip" 1805 (.ref 1150), de P "expect" 1814 (.ref 1157), de P "mark" 1822 (.ref 1164), de P "name" 1829 (.ref 1171), de P "skip_to" 1837 (.ref 1178), de P "__static_attributes__" 1849 (.ref 1179)] 12,
  oT [],
  oF [.int 1157 0, .int 4 0, .ref 1128, .int 1171 0, .int 4 0, .ref 1135, .int 1176 0, .int 4 0, .ref 1142, .int 1179 0, .int 4 0, .ref 1149, .int 1185 0, .int 4 0, .ref 1156, .int 1194 0, .int 4 0, .ref 1163, .int 1197 0, .int 4 0, .ref 1170, .int 1203 0, .int 4 0, .ref 1177],
  oM "code" [vs "Reader" 1761, vs "Reader" 1762, vs "/claim/cut.py" 1763, .int 1155 0, .int 0 0, .int 0 0, .int 0 0, .int 0 0, .ref 1118, .bool false, .int 181 0, .ref 1119, .none, .none, .none, .none, .int 1764 0, .int 1155 0, vs "/claim/cut.py" 1765],
  oR [some (.ref 1120), some (.ref 3), some (.ref 1117), none, some (vs "moduleyard.reader" 1757), none, some (.ref 0)],
  oT [.none]],
  dO (metAt 143 0) "__init__" "Reader.__init__" 1157 5 3 1771 1123 ["self", "source", "types", "errors", "importer"] (vs "moduleyard.reader" 1757) (.ref 1122),
  dO (metAt 143 1) "step" "Reader.step" 1171 1 3 1782 1130 ["self", "token"] (vs "moduleyard.reader" 1757) (.none),
  dO (metAt 143 2) "at" "Reader.at" 1176 2 3 1790 1137 ["self", "kind"] (vs "moduleyard.reader" 1757) (.none),
  dO (metAt 143 3) "skip" "Reader.skip" 1179 2 3 1798 1144 ["self", "kind"] (vs "moduleyard.reader" 1757) (.none),
  dO (metAt 143 4) "expect" "Reader.expect" 1185 2 3 1806 1151 ["self", "kind", "name"] (vs "moduleyard.reader" 1757) (.none),
  dO (metAt 143 5) "mark" "Reader.mark" 1194 2 3 1815 1158 ["self", "code"] (vs "moduleyard.reader" 1757) (.none),
  dO (metAt 143 6) "name" "Reader.name" 1197 1 3 1823 1165 ["self"] (vs "moduleyard.reader" 1757) (.none),
  dO (metAt 143 7) "skip_to" "Reader.skip_to" 1203 2 3 1830 1172 ["self", "kinds"] (vs "moduleyard.reader" 1757) (.none),
  [oT [vs "errors" 1838, vs "forwards" 1839, vs "importer" 1840, vs "level" 1841, vs "module" 1842, vs "procs" 1843, vs "records" 1844, vs "scanner" 1845, vs "scopes" 1846, vs "token" 1847, vs "types" 1848],
  oD [de P "__module__" 1766 (vs "moduleyard.reader" 1757), de P "__firstlineno__" 1770 (.int 1155 1769), de P "__init__" 1781 (.ref 1129), de P "step" 1789 (.ref 1136), de P "at" 1797 (.ref 1143), de P "skip" 1805 (.ref 1150), de P "expect" 1814 (.ref 1157), de P "mark" 1822 (.ref 1164), de P "name" 1829 (.ref 1171), de P "skip_to" 1837 (.ref 1178), de P "__static_attributes__" 1849 (.ref 1179), de P "__dict__" 1851 (.ref 1182), de P "__weakref__" 1853 (.ref 1183), de P "__doc__" 1854 (.none)] 4,
  oY "Reader" [.type "object"] [.ref 1181, .type "object"] 1180 "Reader" [none, none, some (vs "Reader" 1759), some (vs "Reader" 1767), some (.builtin "object.__new__"), some (.bool true)],
  oM "getset_descriptor" [vs "__dict__" 1850, .ref 1181, .builtin "function.__dict__", .builtin "function.__dict__#set"],
  oM "getset_descriptor" [vs "__weakref__" 1852, .ref 1181, .builtin "ExceptionGroup.__weakref__", .none],
  oM "super" [.ref 1181, .ref 1181, .ref 1181],
  oM "builtin_function_or_method" [.builtin "object.__init_subclass__", .ref 1181]]]
noncomputable def hG18 (P : Params) : List DictEntry := hG17 P ++ [de P "Reader" 1856 (.ref 1181)]
noncomputable def hR18 : List Value := hR17 ++ [.int 1155 0, .int 0 0, .ref 1120]
noncomputable def hT18 (P : Params) : BT := hstT P (hG18 P) 132 hR18 (hL1 P ++ (hL2 P ++ (hL3 P ++ (hL4 P ++ (hL5 P ++ (hL6 P ++ (hL7 P ++ (hL8 P ++ (hL9 P ++ (hL10 P ++ (hL11 P ++ (hL12 P ++ (hL13 P ++ (hL14 P ++ (hL15 P ++ (hL16 P ++ (hL17 P ++ (hL18 P))))))))))))))))))
noncomputable def hS18 (w : World) (os : OsState) : SharedT := hstS w os (hT18 w.params) 1186 1857
theorem p18 (w : World) (os : OsState) : segRunT treeTable PW w 11 annV 1 461 (hS17 w os) (piecesOf ((bodyT.drop 143).take 1) envT (.body bodyT envT) ⟨1154, 0, 1154, 8⟩ [topFrame posQ]) = some (.next, hS18 w os, .body bodyT envT, ⟨1155, 0, 1204, 16⟩) := by rw [teSeg, teTab]; kernel_rfl
noncomputable def hL19 (P : Params) : List Obj := cat [dO (topAt 145) "_law_pool" "_law_pool" 1206 1 3 1859 1186 ["script", "figures", "mix", "cell", "big", "rest", "step"] (vs "law_nu0352_01" 1857) (.none),
  dO (topAt 146) "_law_pick" "_law_pick" 1221 2 3 1872 1193 ["pool", "limit", "figure"] (vs "law_nu0352_01" 1857) (.none),
  dO (topAt 147) "_law_put" "_law_put" 1231 3 3 1881 1200 ["pool", "world", "row", "spot"] (vs "law_nu0352_01" 1857) (.none),
  dO (topAt 148) "_law_lack" "_law_lack" 1236 2 3 1891 1207 ["world", "spot"] (vs "law_nu0352_01" 1857) (.none),
  dO (topAt 149) "_law_reduce" "_law_reduce" 1239 2 3 1899 1214 ["done", "waiting", "name", "level", "spot", "form", "last"] (vs "law_nu0352_01" 1857) (.none),
  dO (topAt 150) "_law_row" "_law_row" 1246 4 3 1912 1221 ["pool", "world", "kind", "deep", "form", "waiting", "done", "sign", "spot", "count", "spare", "step", "ops", "op", "level"] (vs "law_nu0352_01" 1857) (.none),
  dO (topAt 151) "_law_relation" "_law_relation" 1272 3 3 1933 1228 ["pool", "world", "deep", "way", "kind", "one", "ops", "op", "spot", "two"] (vs "law_nu0352_01" 1857) (.none),
  dO (topAt 152) "_law_operand" "_law_operand" 1282 6 3 1949 1235 ["pool", "world", "kind", "deep", "plain", "behind", "way", "number", "spot", "name", "tree"] (vs "law_nu0352_01" 1857) (.none),
  [oT [],
  oF [],
  oP (topAt 153) "_law_shape",
  oM "code" [vs "_law_shape" 1966, vs "_law_shape" 1967, vs "/claim/cut.py" 1968, .int 1309 0, .int 1 0, .int 0 0, .int 0 0, .int 3 0, .ref 1242, .bool true, .int 181 0, .ref 1243, .none, .none, .none, .ref 1244, .int 1969 0, .int 1309 0, vs "/claim/cut.py" 1970],
  oG (topAt 153) "_law_shape" (.none) (vs "law_nu0352_01" 1857) (.ref 1245)],
  dO (topAt 154) "law" "law" 1315 1 3 1972 1247 ["script", "pool", "world", "due", "types", "errors", "rd", "name", "t", "told"] (vs "law_nu0352_01" 1857) (.none)]
noncomputable def hG19 (P : Params) : List DictEntry := (hG18 P).set 0 (de P "__name__" 165 (vs "law_nu0352_01" 1857)) ++ [de P "_law_pool" 1871 (.ref 1192), de P "_law_pick" 1880 (.ref 1199), de P "_law_put" 1890 (.ref 1206), de P "_law_lack" 1898 (.ref 1213), de P "_law_reduce" 1911 (.ref 1220), de P "_law_row" 1932 (.ref 1227), de P "_law_relation" 1948 (.ref 1234), de P "_law_operand" 1965 (.ref 1241), de P "_law_shape" 1971 (.ref 1246), de P "law" 1987 (.ref 1253)]
noncomputable def hR19 : List Value := hR18 ++ [.int 1206 0, .int 0 0, .ref 1191, .int 1221 0, .int 0 0, .ref 1198, .int 1231 0, .int 0 0, .ref 1205, .int 1236 0, .int 0 0, .ref 1212, .int 1239 0, .int 0 0, .ref 1219, .int 1246 0, .int 0 0, .ref 1226, .int 1272 0, .int 0 0, .ref 1233, .int 1282 0, .int 0 0, .ref 1240, .int 1309 0, .int 0 0, .ref 1245, .int 1315 0, .int 0 0, .ref 1252]
noncomputable def hT19 (P : Params) : BT := hstT P (hG19 P) 142 hR19 (hL1 P ++ (hL2 P ++ (hL3 P ++ (hL4 P ++ (hL5 P ++ (hL6 P ++ (hL7 P ++ (hL8 P ++ (hL9 P ++ (hL10 P ++ (hL11 P ++ (hL12 P ++ (hL13 P ++ (hL14 P ++ (hL15 P ++ (hL16 P ++ (hL17 P ++ (hL18 P ++ (hL19 P)))))))))))))))))))
noncomputable def hS19 (w : World) (os : OsState) : SharedT := hstS w os (hT19 w.params) 1254 1988
theorem p19 (w : World) (os : OsState) : segRunT treeTable PW w 11 annV 1 357 (hS18 w os) (piecesOf ((bodyT.drop 144).take 11) envT (.body bodyT envT) ⟨1155, 0, 1204, 16⟩ [topFrame posQ]) = some (.next, hS19 w os, .body bodyT envT, ⟨1315, 0, 1332, 75⟩) := by rw [teSeg, teTab]; kernel_rfl

noncomputable abbrev cT : Code := .body bodyT envT
theorem teTG : @topGo = PySem.W.Fast.tw15667345088766844465 := PySem.W.Fast.te15667345088766844465
theorem teTR : @topRun = PySem.W.Fast.tw14082659384304107361 := PySem.W.Fast.te14082659384304107361
theorem teDen : @denote = PySem.W.Fast.tw11892475500146522536 := PySem.W.Fast.te11892475500146522536
theorem pre_ok (w : World) (os : OsState) : topGo treeTable PW w 11 annV 12 ⟨boot_heap w.params, Array.mk [], boot_drawn, boot_toks, os⟩ (topStub PW) = some ((hS0 w os).abs, ⟨denote treeTable cT, cT, posQ, [topFrame posQ]⟩) := by
  rw [teTG, teTab, teDen]; kernel_rfl
theorem rest_split (a n : Nat) : bodyT.drop a = (bodyT.drop a).take n ++ bodyT.drop (a + n) := by rw [← List.drop_drop, List.take_append_drop]
theorem rest_end : bodyT.drop 155 = [] := by kernel_rfl

theorem run19 (w : World) (os : OsState) : topRun treeTable PW w 11 annV 2 (hS19 w os).abs (restOf (bodyT.drop 155) envT cT ⟨1315, 0, 1332, 75⟩ [topFrame posQ]) = some (hS19 w os).abs := by
  rw [rest_end]
  refine piece_nil ?_
  rfl
theorem run18 (w : World) (os : OsState) : topRun treeTable PW w 11 annV (357 + 2) (hS18 w os).abs (restOf (bodyT.drop 144) envT cT ⟨1155, 0, 1204, 16⟩ [topFrame posQ]) = some (hS19 w os).abs := by
  rw [rest_split 144 11]
  exact piece_app (segRun_of (p19 w os)) (run19 w os)
theorem run17 (w : World) (os : OsState) : topRun treeTable PW w 11 annV (461 + (357 + 2)) (hS17 w os).abs (restOf (bodyT.drop 143) envT cT ⟨1154, 0, 1154, 8⟩ [topFrame posQ]) = some (hS19 w os).abs := by
  rw [rest_split 143 1]
  exact piece_app (segRun_of (p18 w os)) (run18 w os)
theorem run16 (w : World) (os : OsState) : topRun treeTable PW w 11 annV (97 + (461 + (357 + 2))) (hS16 w os).abs (restOf (bodyT.drop 139) envT cT ⟨1138, 0, 1138, 8⟩ [topFrame posQ]) = some (hS19 w os).abs := by
  rw [rest_split 139 4]
  exact piece_app (segRun_of (p17 w os)) (run17 w os)
theorem run15 (w : World) (os : OsState) : topRun treeTable PW w 11 annV (434 + (97 + (461 + (357 + 2)))) (hS15 w os).abs (restOf (bodyT.drop 137) envT cT ⟨1083, 0, 1090, 22⟩ [topFrame posQ]) = some (hS19 w os).abs := by
  rw [rest_split 137 2]
  exact piece_app (segRun_of (p16 w os)) (run16 w os)
theorem run14 (w : World) (os : OsState) : topRun treeTable PW w 11 annV (228 + (434 + (97 + (461 + (357 + 2))))) (hS14 w os).abs (restOf (bodyT.drop 136) envT cT ⟨1082, 0, 1082, 8⟩ [topFrame posQ]) = some (hS19 w os).abs := by
  rw [rest_split 136 1]
  exact piece_app (segRun_of (p15 w os)) (run15 w os)
theorem run13 (w : World) (os : OsState) : topRun treeTable PW w 11 annV (311 + (228 + (434 + (97 + (461 + (357 + 2)))))) (hS13 w os).abs (restOf (bodyT.drop 134) envT cT ⟨1038, 0, 1054, 28⟩ [topFrame posQ]) = some (hS19 w os).abs := by
  rw [rest_split 134 2]
  exact piece_app (segRun_of (p14 w os)) (run14 w os)
theorem run12 (w : World) (os : OsState) : topRun treeTable PW w 11 annV (239 + (311 + (228 + (434 + (97 + (461 + (357 + 2))))))) (hS12 w os).abs (restOf (bodyT.drop 133) envT cT ⟨1023, 0, 1037, 21⟩ [topFrame posQ]) = some (hS19 w os).abs := by
  rw [rest_split 133 1]
  exact piece_app (segRun_of (p13 w os)) (run13 w os)
theorem run11 (w : World) (os : OsState) : topRun treeTable PW w 11 annV (245 + (239 + (311 + (228 + (434 + (97 + (461 + (357 + 2)))))))) (hS11 w os).abs (restOf (bodyT.drop 131) envT cT ⟨874, 0, 1021, 17⟩ [topFrame posQ]) = some (hS19 w os).abs := by
  rw [rest_split 131 2]
  exact piece_app (segRun_of (p12 w os)) (run12 w os)
theorem run10 (w : World) (os : OsState) : topRun treeTable PW w 11 annV (663 + (245 + (239 + (311 + (228 + (434 + (97 + (461 + (357 + 2))))))))) (hS10 w os).abs (restOf (bodyT.drop 130) envT cT ⟨867, 0, 873, 16⟩ [topFrame posQ]) = some (hS19 w os).abs := by
  rw [rest_split 130 1]
  exact piece_app (segRun_of (p11 w os)) (run11 w os)
theorem run9 (w : World) (os : OsState) : topRun treeTable PW w 11 annV (385 + (663 + (245 + (239 + (311 + (228 + (434 + (97 + (461 + (357 + 2)))))))))) (hS9 w os).abs (restOf (bodyT.drop 123) envT cT ⟨851, 0, 851, 9⟩ [topFrame posQ]) = some (hS19 w os).abs := by
  rw [rest_split 123 7]
  exact piece_app (segRun_of (p10 w os)) (run10 w os)
theorem run8 (w : World) (os : OsState) : topRun treeTable PW w 11 annV (354 + (385 + (663 + (245 + (239 + (311 + (228 + (434 + (97 + (461 + (357 + 2))))))))))) (hS8 w os).abs (restOf (bodyT.drop 118) envT cT ⟨825, 0, 829, 71⟩ [topFrame posQ]) = some (hS19 w os).abs := by
  rw [rest_split 118 5]
  exact piece_app (segRun_of (p9 w os)) (run9 w os)
theorem run7 (w : World) (os : OsState) : topRun treeTable PW w 11 annV (449 + (354 + (385 + (663 + (245 + (239 + (311 + (228 + (434 + (97 + (461 + (357 + 2)))))))))))) (hS7 w os).abs (restOf (bodyT.drop 103) envT cT ⟨672, 0, 679, 42⟩ [topFrame posQ]) = some (hS19 w os).abs := by
  rw [rest_split 103 15]
  exact piece_app (segRun_of (p8 w os)) (run8 w os)
theorem run6 (w : World) (os : OsState) : topRun treeTable PW w 11 annV (451 + (449 + (354 + (385 + (663 + (245 + (239 + (311 + (228 + (434 + (97 + (461 + (357 + 2))))))))))))) (hS6 w os).abs (restOf (bodyT.drop 87) envT cT ⟨547, 0, 547, 18⟩ [topFrame posQ]) = some (hS19 w os).abs := by
  rw [rest_split 87 16]
  exact piece_app (segRun_of (p7 w os)) (run7 w os)
theorem run5 (w : World) (os : OsState) : topRun treeTable PW w 11 annV (440 + (451 + (449 + (354 + (385 + (663 + (245 + (239 + (311 + (228 + (434 + (97 + (461 + (357 + 2)))))))))))))) (hS5 w os).abs (restOf (bodyT.drop 70) envT cT ⟨452, 0, 452, 15⟩ [topFrame posQ]) = some (hS19 w os).abs := by
  rw [rest_split 70 17]
  exact piece_app (segRun_of (p6 w os)) (run6 w os)
theorem run4 (w : World) (os : OsState) : topRun treeTable PW w 11 annV (431 + (440 + (451 + (449 + (354 + (385 + (663 + (245 + (239 + (311 + (228 + (434 + (97 + (461 + (357 + 2))))))))))))))) (hS4 w os).abs (restOf (bodyT.drop 55) envT cT ⟨321, 0, 333, 15⟩ [topFrame posQ]) = some (hS19 w os).abs := by
  rw [rest_split 55 15]
  exact piece_app (segRun_of (p5 w os)) (run5 w os)
theorem run3 (w : World) (os : OsState) : topRun treeTable PW w 11 annV (423 + (431 + (440 + (451 + (449 + (354 + (385 + (663 + (245 + (239 + (311 + (228 + (434 + (97 + (461 + (357 + 2)))))))))))))))) (hS3 w os).abs (restOf (bodyT.drop 40) envT cT ⟨241, 0, 243, 54⟩ [topFrame posQ]) = some (hS19 w os).abs := by
  rw [rest_split 40 15]
  exact piece_app (segRun_of (p4 w os)) (run4 w os)
theorem run2 (w : World) (os : OsState) : topRun treeTable PW w 11 annV (434 + (423 + (431 + (440 + (451 + (449 + (354 + (385 + (663 + (245 + (239 + (311 + (228 + (434 + (97 + (461 + (357 + 2))))))))))))))))) (hS2 w os).abs (restOf (bodyT.drop 24) envT cT ⟨138, 0, 138, 8⟩ [topFrame posQ]) = some (hS19 w os).abs := by
  rw [rest_split 24 16]
  exact piece_app (segRun_of (p3 w os)) (run3 w os)
theorem run1 (w : World) (os : OsState) : topRun treeTable PW w 11 annV (436 + (434 + (423 + (431 + (440 + (451 + (449 + (354 + (385 + (663 + (245 + (239 + (311 + (228 + (434 + (97 + (461 + (357 + 2)))))))))))))))))) (hS1 w os).abs (restOf (bodyT.drop 9) envT cT ⟨30, 0, 31, 31⟩ [topFrame posQ]) = some (hS19 w os).abs := by
  rw [rest_split 9 15]
  exact piece_app (segRun_of (p2 w os)) (run2 w os)
theorem run0 (w : World) (os : OsState) : topRun treeTable PW w 11 annV (429 + (436 + (434 + (423 + (431 + (440 + (451 + (449 + (354 + (385 + (663 + (245 + (239 + (311 + (228 + (434 + (97 + (461 + (357 + 2))))))))))))))))))) (hS0 w os).abs (restOf (bodyT.drop 0) envT cT ⟨0, 0, 0, 0⟩ [topFrame posQ]) = some (hS19 w os).abs := by
  rw [rest_split 0 9]
  exact piece_app (segRun_of (p1 w os)) (run1 w os)
theorem block_ok (w : World) (os : OsState) : segRun treeTable PW w 11 annV 1 1 (hS0 w os).abs (blockOf bodyT envT cT posQ [topFrame posQ]) = some (.next, (hS0 w os).abs, cT, posQ) := by rfl
theorem run_ok (w : World) (os : OsState) : topRun treeTable PW w 11 annV (12 + (1 + (429 + (436 + (434 + (423 + (431 + (440 + (451 + (449 + (354 + (385 + (663 + (245 + (239 + (311 + (228 + (434 + (97 + (461 + (357 + 2))))))))))))))))))))) ⟨boot_heap w.params, Array.mk [], boot_drawn, boot_toks, os⟩ (topStub PW) = some (hS19 w os).abs :=
  go_top (pre_ok w os) (piece_block (block_ok w os) (run0 w os))
theorem open_ok : ∀ w : World, (fencedOpening treeTable PW w 15000).map (fun s => (s.heap, s.gens, s.drawn, s.toks)) = some (boot_heap w.params, Array.mk [], boot_drawn, boot_toks) :=
  boot_open (by kernel_rfl) (by decide) (fun s => by rfl)
theorem size_ok (w : World) : ((boot_heap w.params).isNs mainGlobals && (Array.mk ([] : List GenState)).size == 0, (boot_heap w.params).objs.size, (boot_heap w.params).nsMap mainGlobals "__annotations__") = (true, 11, annV) := by kernel_rfl
noncomputable abbrev hH (P : Params) : Heap := absHeap (hT19 P) 1254 (boot_heap P).life
noncomputable abbrev LW := PySem.Challenge.rw_nu0352_01
noncomputable abbrev QW : Program := { PW with main := { PW.main with body := [topAt 154] } }
noncomputable def looseL : List Str := PW.boundNames.filter fun n => !Fast.sEq n "law"
noncomputable abbrev shF (w : World) (os : OsState) : Shared := ⟨hH w.params, #[], boot_drawn, 1988, os⟩
theorem imp_ok : importedModules PW.main.body = [] := by rw [PySem.W.Fast.te5923862056798008813]; kernel_rfl
theorem look1 (w : World) : staticsOk [] (boot_heap w.params) (hH w.params) = true := by kernel_rfl
theorem look2 (w : World) : namesBound PW (hH w.params) = true := by
  unfold namesBound
  rw [PySem.W.Fast.te18344453789297297638]; kernel_rfl
theorem look3 (w : World) (os : OsState) : gensDone (shF w os) = true := by rfl
theorem look4 (w : World) : laidKept (boot_heap w.params) (hH w.params) = true := by kernel_rfl
theorem look5 (w : World) (os : OsState) : openSeen QW looseL [] (fun _ => true) true (shF w os) = openGood QW looseL := by
  rw [PySem.W.Fast.te4187177175401517315]; kernel_rfl
noncomputable def kD (st : Stmt) (x qn : String) (line na fl t b nv : Nat) (m d : Value) : List (Addr × Obj) := [(b + 5, oC x qn line na fl t b nv), (b + 6, oG st qn d m (.ref (b + 5)))]
theorem vlen0 {P : List Value → Prop} (h : P []) (vs : List Value) (e : vs.length = 0) : P vs := List.eq_nil_of_length_eq_zero e ▸ h
theorem vcons {n : Nat} {P : List Value → Prop} (h : ∀ a r, r.length = n → P (a :: r)) (vs : List Value) (e : vs.length = n + 1) : P vs := by
  cases vs with
  | nil => cases e
  | cons a r => exact h a r (Nat.succ.inj e)
theorem vlen1 {P : List Value → Prop} (h : ∀ a, P [a]) : ∀ vs, vs.length = 1 → P vs := vcons fun a => vlen0 (h a)
theorem vlen2 {P : List Value → Prop} (h : ∀ a b, P [a, b]) : ∀ vs, vs.length = 2 → P vs := vcons fun a => vlen1 (h a)
theorem vlen3 {P : List Value → Prop} (h : ∀ a b d, P [a, b, d]) : ∀ vs, vs.length = 3 → P vs := vcons fun a => vlen2 (h a)
theorem vlen4 {P : List Value → Prop} (h : ∀ a b d e, P [a, b, d, e]) : ∀ vs, vs.length = 4 → P vs := vcons fun a => vlen3 (h a)
theorem vlen5 {P : List Value → Prop} (h : ∀ a b d e f, P [a, b, d, e, f]) : ∀ vs, vs.length = 5 → P vs := vcons fun a => vlen4 (h a)
theorem vlen6 {P : List Value → Prop} (h : ∀ a b d e f g, P [a, b, d, e, f, g]) : ∀ vs, vs.length = 6 → P vs := vcons fun a => vlen5 (h a)
noncomputable abbrev fdOf (st : Stmt) (q : String) (d m : Value) (cd : Addr) : FuncData := fnOf (fName st) (Str.ofString q) (fArgs st) (fBody st) (fScope st) d .none .none m none (.ref cd) .none
/-- what is checked of a def in the fragment, by computation -/
noncomputable def chkF (K : Frag) (cd : Addr) (q : Str) (sc : Scope) (names : List Str) : Bool := codeIn K (.ref cd) q && scopeOK sc names
section
variable {c : Cx} {K : Frag}
theorem fdef0 (hK : c.K = K) {f cd : Addr} {st : Stmt} {q : String} {m : Value} {names : List Str} {n : Nat} (hl : K.lookup f = some (oG st q .none m (.ref cd))) (hc : chkF K cd (Str.ofString q) (fScope st) names = true)
    (hb : ∀ vs : List Value, vs.length = n → bindArgs (fdOf st q .none m cd) ⟨vs, []⟩ = pure (names.zip (vs ++ []))) : Fdef c f (Str.ofString q) (fBody st) (fScope st) names n [] := by
  subst hK
  obtain ⟨h1, h2⟩ := Bool.and_eq_true_iff.mp hc
  exact ⟨⟨_, _, _, _, _, _, _, _, _, _, _, _, hl, h1, fun s vs _ hv => ⟨[], fun _ => .nil, BindsTo.of_eq (hb vs hv)⟩⟩, h2⟩
theorem fdef1 (hK : c.K = K) {f cd T : Addr} {st : Stmt} {q : String} {m : Value} {names : List Str} {n : Nat} {dflt : List MV} {items dvs : List Value}
    (hl : K.lookup f = some (oG st q (.ref T) m (.ref cd))) (hc : chkF K cd (Str.ofString q) (fScope st) names = true) (hT : K.lookup T = some (oT items)) (hd : ∀ Z, VRs Z dflt dvs)
    (hb : ∀ vs : List Value, vs.length = n → ∃ kk : Option (Array Value) → Sem (List (Str × Value)), bindArgs (fdOf st q (.ref T) m cd) ⟨vs, []⟩ = seqItems? (.ref T) >>= kk ∧ kk (some items.toArray) = pure (names.zip (vs ++ dvs))) : Fdef c f (Str.ofString q) (fBody st) (fScope st) names n dflt := by
  subst hK
  obtain ⟨h1, h2⟩ := Bool.and_eq_true_iff.mp hc
  exact ⟨⟨_, _, _, _, _, _, _, _, _, _, _, _, hl, h1, fun s vs X hv => let ⟨_, e1, e2⟩ := hb vs hv; ⟨dvs, hd, BindsTo.of_defaults rfl (X _ _ hT) rfl e1 e2⟩⟩, h2⟩
theorem keep_of {f : Addr} {st : Stmt} {q : String} {d m co : Value} (hl : K.lookup f = some (oG st q d m co)) : keepIn K (.ref f) = true := by
  unfold keepIn
  dsimp only
  rw [hl]; rfl
theorem mk_gf (hK : c.K = K) {i : Nat} {name : Str} {f cd : Addr} {q : String} {m : Value} {names : List Str} {n : Nat} (hl : K.lookup f = some (oG (topAt i) q .none m (.ref cd))) (hc : chkF K cd (Str.ofString q) (fScope (topAt i)) names = true) (hg : nsIn K mainGlobals name = some (some (.ref f)))
    (hb : ∀ vs : List Value, vs.length = n → bindArgs (fdOf (topAt i) q .none m cd) ⟨vs, []⟩ = pure (names.zip (vs ++ []))) : GF c i name (Str.ofString q) names n [] f :=
  ⟨by rw [hK]; exact hg, by rw [hK]; exact keep_of hl, fdef0 hK hl hc hb⟩
theorem ns_of (hK : c.K = K) {x : Str} {r : Option (Option Value)} (h : nsIn K mainGlobals x = r) : nsIn c.K mainGlobals x = r := by rw [hK]; exact h
noncomputable def isNN (o : Option (Option Value)) : Bool := match o with
  | some Option.none => true
  | _ => false
theorem isNN_eq {o : Option (Option Value)} (h : isNN o = true) : o = some Option.none := by
  unfold isNN at h
  split at h
  · rfl
  · cases h
noncomputable def isRf (o : Option (Option Value)) (f : Addr) : Bool := match o with
  | some (some (.ref g)) => Nat.beq g f
  | _ => false
theorem isRf_eq {o : Option (Option Value)} {f : Addr} (h : isRf o f = true) : o = some (some (.ref f)) := by
  unfold isRf at h
  split at h
  · rw [Nat.eq_of_beq_eq_true h]
  · cases h
noncomputable def isBi (o : Option (Option Value)) (s : String) : Bool := match o with
  | some (some (.builtin g)) => g == s
  | _ => false
theorem isBi_eq {o : Option (Option Value)} {s : String} (h : isBi o s = true) : o = some (some (.builtin s)) := by
  unfold isBi at h
  split at h
  · rw [beq_iff_eq.mp h]
  · cases h
/-- what is checked of a class in the fragment -/
noncomputable def chkC (K : Frag) (C : Addr) (names : List Str) (meths : List (Str × Addr)) : Bool :=
  makesIn K C && plainGet K C (Str.ofString "") && hasDictIn K C && isBi (findIn K (.ref C) "__setattr__") "object.__setattr__" && plainOver K C &&
  (names.all fun x => isNN (findIn K (.ref C) x) && isNN (takerIn K C x)) && (meths.all fun p => isRf (findIn K (.ref C) p.1) p.2 && isFn K (.ref p.2) && keepIn K (.ref p.2))
theorem mk_cdef (hK : c.K = K) {C : Addr} {names : List Str} {meths : List (Str × Addr)} (h : chkC K C names meths = true) : Cdef c C names meths := by
  subst hK
  unfold chkC at h
  simp only [Bool.and_eq_true, List.all_eq_true] at h
  obtain ⟨⟨⟨⟨⟨⟨h1, h2⟩, h3⟩, h4⟩, h5⟩, h6⟩, h7⟩ := h
  exact ⟨h1, h2, h3, isBi_eq h4, h5, fun x hx => ⟨isNN_eq (h6 x hx).1, isNN_eq (h6 x hx).2⟩, fun x f hx => ⟨isRf_eq (h7 _ hx).1.1, (h7 _ hx).1.2, (h7 _ hx).2⟩⟩
theorem mk_gc (hK : c.K = K) {name : Str} {C : Addr} {names : List Str} {meths : List (Str × Addr)} (hg : nsIn K mainGlobals name = some (some (.ref C))) (hk : keepIn K (.ref C) = true) (h : chkC K C names meths = true) : GC c name names meths C :=
  ⟨by rw [hK]; exact hg, by rw [hK]; exact hk, mk_cdef hK h⟩
end
noncomputable def asL : List Addr := [3, 29, 833, 988, 1122, 49, 50, 84, 85, 91, 92, 259, 260, 266, 267, 273, 274, 280, 281, 287, 288, 294, 295, 336, 337, 343, 344, 350, 351, 357, 358, 364, 365, 371, 372, 413, 414, 420, 421, 427, 428, 441, 442, 600, 601, 607, 608, 614, 615, 621, 622, 628, 629, 642, 643, 656, 657, 663, 664, 670, 671, 677, 678, 789, 790, 796, 797, 803, 804, 810, 811, 817, 818, 1099, 1100, 1106, 1107, 1113, 1114, 1191, 1192, 1198, 1199, 1205, 1206, 1212, 1213, 1219, 1220, 1226, 1227, 1233, 1234, 1240, 1241, 1245, 1246, 39, 38, 35, 36, 758, 757, 733, 734, 740, 741, 779, 778, 775, 776, 927, 926, 831, 832, 839, 840, 846, 847, 853, 854, 860, 861, 867, 868, 874, 875, 881, 882, 923, 924, 948, 947, 944, 945, 969, 968, 965, 966, 1005, 1004, 986, 987, 994, 995, 1026, 1025, 1022, 1023, 1089, 1088, 1043, 1044, 1050, 1051, 1071, 1072, 1078, 1079, 1085, 1086, 1181, 1180, 1128, 1129, 1135, 1136, 1142, 1143, 1149, 1150, 1156, 1157, 1163, 1164, 1170, 1171]
noncomputable def catK : List (List (Addr × Obj)) → Frag
  | [] => []
  | l :: r => l ++ catK r
noncomputable def KF (P : Params) : Frag := catK [[(3, oD (hG19 P) 142)],
  [(29, oT [.none])],
  [(833, oT [.int 0 1328])],
  [(988, oT [vs "" 1571, vs "" 1572])],
  [(1122, oT [.none])],
  kD (topAt 3) "const" "const" 14 3 3 234 44 3 (vs "moduleyard.trees" 194) (.none),
  kD (topAt 9) "is_integer" "is_integer" 32 1 3 275 79 1 (vs "moduleyard.typerel" 265) (.none),
  kD (topAt 10) "is_text" "is_text" 34 1 3 282 86 1 (vs "moduleyard.typerel" 265) (.none),
  kD (topAt 39) "wrap" "wrap" 241 1 3 526 254 2 (vs "moduleyard.consts" 522) (.none),
  kD (topAt 40) "fits" "fits" 244 1 3 534 261 1 (vs "moduleyard.consts" 522) (.none),
  kD (topAt 41) "checked" "checked" 246 1 3 541 268 1 (vs "moduleyard.consts" 522) (.none),
  kD (topAt 42) "fold_unary" "fold_unary" 250 2 3 548 275 2 (vs "moduleyard.consts" 522) (.none),
  kD (topAt 43) "fold_division" "fold_division" 256 3 3 556 282 3 (vs "moduleyard.consts" 522) (.none),
  kD (topAt 44) "fold_binary" "fold_binary" 260 3 3 565 289 3 (vs "moduleyard.consts" 522) (.none),
  kD (topAt 51) "is_const" "is_const" 315 1 3 624 331 1 (vs "moduleyard.checkops" 622) (.none),
  kD (topAt 53) "wrong" "wrong" 318 4 3 632 338 4 (vs "moduleyard.checkops" 622) (.none),
  kD (topAt 54) "unary" "unary" 321 5 3 642 345 6 (vs "moduleyard.checkops" 622) (.none),
  kD (topAt 55) "unary_node" "unary_node" 334 5 3 654 352 7 (vs "moduleyard.checkops" 622) (.none),
  kD (topAt 56) "binary" "binary" 341 6 3 667 359 6 (vs "moduleyard.checkops" 622) (.none),
  kD (topAt 57) "binary_node" "binary_node" 355 6 3 679 366 8 (vs "moduleyard.checkops" 622) (.none),
  kD (topAt 65) "compared" "compared" 398 3 3 742 408 6 (vs "moduleyard.checkrel" 724) (.none),
  kD (topAt 66) "referred" "referred" 415 2 3 754 415 7 (vs "moduleyard.checkrel" 724) (.none),
  kD (topAt 67) "relation" "relation" 431 6 3 767 422 7 (vs "moduleyard.checkrel" 724) (.none),
  kD (topAt 70) "member" "member" 453 5 3 795 436 5 (vs "moduleyard.checkrel" 724) (.none),
  kD (topAt 99) "qualident" "qualident" 633 1 3 1002 595 5 (vs "moduleyard.desigparse" 1000) (.none),
  kD (topAt 100) "object_node" "object_node" 652 3 3 1013 602 3 (vs "moduleyard.desigparse" 1000) (.none),
  kD (topAt 101) "variable_node" "variable_node" 665 2 3 1022 609 3 (vs "moduleyard.desigparse" 1000) (.none),
  kD (topAt 102) "designator" "designator" 672 2 3 1031 616 5 (vs "moduleyard.desigparse" 1000) (.none),
  kD (topAt 103) "selectors" "selectors" 680 3 3 1042 623 5 (vs "moduleyard.desigparse" 1000) (.none),
  kD (topAt 106) "expression" "expression" 710 1 3 1066 637 3 (vs "moduleyard.exprparse" 1064) (.none),
  kD (topAt 108) "simple_expression" "simple_expression" 728 1 3 1086 651 3 (vs "moduleyard.exprparse" 1064) (.none),
  kD (topAt 109) "term" "term" 739 1 3 1095 658 3 (vs "moduleyard.exprparse" 1064) (.none),
  kD (topAt 110) "factor" "factor" 745 1 3 1104 665 4 (vs "moduleyard.exprparse" 1064) (.none),
  kD (topAt 111) "named_factor" "named_factor" 771 1 3 1114 672 3 (vs "moduleyard.exprparse" 1064) (.none),
  kD (topAt 124) "keywords" "keywords" 858 0 3 1268 784 0 (vs "moduleyard.scanner" 1229) (.none),
  kD (topAt 125) "is_letter" "is_letter" 860 1 3 1274 791 1 (vs "moduleyard.scanner" 1229) (.none),
  kD (topAt 127) "is_digit" "is_digit" 863 1 3 1282 798 1 (vs "moduleyard.scanner" 1229) (.none),
  kD (topAt 128) "is_hex_digit" "is_hex_digit" 865 1 3 1289 805 1 (vs "moduleyard.scanner" 1229) (.none),
  kD (topAt 129) "digits_value" "digits_value" 867 3 3 1296 812 5 (vs "moduleyard.scanner" 1229) (.none),
  kD (topAt 139) "std_functions" "std_functions" 1139 0 3 1736 1094 0 (vs "moduleyard.universe" 1734) (.none),
  kD (topAt 140) "std_procedures" "std_procedures" 1141 0 3 1742 1101 0 (vs "moduleyard.universe" 1734) (.none),
  kD (topAt 141) "fill" "fill" 1143 1 3 1748 1108 3 (vs "moduleyard.universe" 1734) (.none),
  kD (topAt 145) "_law_pool" "_law_pool" 1206 1 3 1859 1186 7 (vs "law_nu0352_01" 1857) (.none),
  kD (topAt 146) "_law_pick" "_law_pick" 1221 2 3 1872 1193 3 (vs "law_nu0352_01" 1857) (.none),
  kD (topAt 147) "_law_put" "_law_put" 1231 3 3 1881 1200 4 (vs "law_nu0352_01" 1857) (.none),
  kD (topAt 148) "_law_lack" "_law_lack" 1236 2 3 1891 1207 2 (vs "law_nu0352_01" 1857) (.none),
  kD (topAt 149) "_law_reduce" "_law_reduce" 1239 2 3 1899 1214 7 (vs "law_nu0352_01" 1857) (.none),
  kD (topAt 150) "_law_row" "_law_row" 1246 4 3 1912 1221 15 (vs "law_nu0352_01" 1857) (.none),
  kD (topAt 151) "_law_relation" "_law_relation" 1272 3 3 1933 1228 10 (vs "law_nu0352_01" 1857) (.none),
  kD (topAt 152) "_law_operand" "_law_operand" 1282 6 3 1949 1235 11 (vs "law_nu0352_01" 1857) (.none),
  [(1245, oM "code" [vs "_law_shape" 1966, vs "_law_shape" 1967, vs "/claim/cut.py" 1968, .int 1309 0, .int 1 0, .int 0 0, .int 0 0, .int 3 0, .ref 1242, .bool true, .int 181 0, .ref 1243, .none, .none, .none, .ref 1244, .int 1969 0, .int 1309 0, vs "/claim/cut.py" 1970]), (1246, oG (topAt 153) "_law_shape" (.none) (vs "law_nu0352_01" 1857) (.ref 1245))],
  [(39, oY "Node" [.type "object"] [.ref 39, .type "object"] 38 "Node" [none, none, some (vs "Node" 196), some (vs "Node" 204), some (.builtin "object.__new__"), some (.bool true)]), (38, oD [de P "__module__" 203 (vs "moduleyard.trees" 194), de P "__firstlineno__" 207 (.int 5 206), de P "__init__" 219 (.ref 36), de P "__static_attributes__" 226 (.ref 37), de P "__dict__" 228 (.ref 40), de P "__weakref__" 230 (.ref 41), de P "__doc__" 231 (.none)] 4)],
  kD (metAt 2 0) "__init__" "Node.__init__" 7 6 3 208 30 6 (vs "moduleyard.trees" 194) (.ref 29),
  [(758, oY "ErrorList" [.type "object"] [.ref 758, .type "object"] 757 "ErrorList" [none, none, some (vs "ErrorList" 1177), some (vs "ErrorList" 1185), some (.builtin "object.__new__"), some (.bool true)]), (757, oD [de P "__module__" 1184 (vs "moduleyard.errors" 1175), de P "__firstlineno__" 1188 (.int 831 1187), de P "__init__" 1195 (.ref 734), de P "mark" 1204 (.ref 741), de P "first" 1211 (.ref 748), de P "ok" 1218 (.ref 755), de P "__static_attributes__" 1221 (.ref 756), de P "__dict__" 1223 (.ref 759), de P "__weakref__" 1225 (.ref 760), de P "__doc__" 1226 (.none)] 4)],
  kD (metAt 119 0) "__init__" "ErrorList.__init__" 833 1 3 1189 728 1 (vs "moduleyard.errors" 1175) (.none),
  kD (metAt 119 1) "mark" "ErrorList.mark" 837 3 3 1196 735 3 (vs "moduleyard.errors" 1175) (.none),
  [(779, oY "Token" [.type "object"] [.ref 779, .type "object"] 778 "Token" [none, none, some (vs "Token" 1235), some (vs "Token" 1243), some (.builtin "object.__new__"), some (.bool true)]), (778, oD [de P "__module__" 1242 (vs "moduleyard.scanner" 1229), de P "__firstlineno__" 1246 (.int 852 1245), de P "__init__" 1256 (.ref 776), de P "__static_attributes__" 1260 (.ref 777), de P "__dict__" 1262 (.ref 780), de P "__weakref__" 1264 (.ref 781), de P "__doc__" 1265 (.none)] 4)],
  kD (metAt 123 0) "__init__" "Token.__init__" 854 4 3 1247 770 4 (vs "moduleyard.scanner" 1229) (.none),
  [(927, oY "Scanner" [.type "object"] [.ref 927, .type "object"] 926 "Scanner" [none, none, some (vs "Scanner" 1307), some (vs "Scanner" 1315), some (.builtin "object.__new__"), some (.bool true)]), (926, oD [de P "__module__" 1314 (vs "moduleyard.scanner" 1229), de P "__firstlineno__" 1318 (.int 874 1317), de P "__init__" 1327 (.ref 832), de P "char" 1336 (.ref 840), de P "take" 1346 (.ref 847), de P "skip" 1354 (.ref 854), de P "remark" 1364 (.ref 861), de P "word" 1374 (.ref 868), de P "numeral" 1386 (.ref 875), de P "whole" 1396 (.ref 882), de P "hexadecimal" 1406 (.ref 889), de P "character" 1416 (.ref 896), de P "real" 1425 (.ref 903), de P "skip_digits" 1432 (.ref 910), de P "string" 1442 (.ref 917), de P "symbol" 1450 (.ref 924), de P "__static_attributes__" 1455 (.ref 925), de P "__dict__" 1457 (.ref 928), de P "__weakref__" 1459 (.ref 929), de P "__doc__" 1460 (.none)] 4)],
  kD (metAt 130 0) "__init__" "Scanner.__init__" 876 3 3 1319 826 3 (vs "moduleyard.scanner" 1229) (.none),
  kD (metAt 130 1) "char" "Scanner.char" 882 2 3 1329 834 2 (vs "moduleyard.scanner" 1229) (.ref 833),
  kD (metAt 130 2) "take" "Scanner.take" 885 1 3 1337 841 4 (vs "moduleyard.scanner" 1229) (.none),
  kD (metAt 130 3) "skip" "Scanner.skip" 905 1 3 1347 848 2 (vs "moduleyard.scanner" 1229) (.none),
  kD (metAt 130 4) "remark" "Scanner.remark" 915 1 3 1355 855 4 (vs "moduleyard.scanner" 1229) (.none),
  kD (metAt 130 5) "word" "Scanner.word" 933 2 3 1365 862 4 (vs "moduleyard.scanner" 1229) (.none),
  kD (metAt 130 6) "numeral" "Scanner.numeral" 943 2 3 1375 869 6 (vs "moduleyard.scanner" 1229) (.none),
  kD (metAt 130 7) "whole" "Scanner.whole" 963 4 3 1387 876 4 (vs "moduleyard.scanner" 1229) (.none),
  kD (metAt 130 13) "symbol" "Scanner.symbol" 1015 1 3 1443 918 2 (vs "moduleyard.scanner" 1229) (.none),
  [(948, oY "Type" [.type "object"] [.ref 948, .type "object"] 947 "Type" [none, none, some (vs "Type" 1465), some (vs "Type" 1473), some (.builtin "object.__new__"), some (.bool true)]), (947, oD [de P "__module__" 1472 (vs "moduleyard.types" 1463), de P "__firstlineno__" 1476 (.int 1023 1475), de P "__init__" 1486 (.ref 945), de P "__static_attributes__" 1499 (.ref 946), de P "__dict__" 1501 (.ref 949), de P "__weakref__" 1503 (.ref 950), de P "__doc__" 1504 (.none)] 4)],
  kD (metAt 132 0) "__init__" "Type.__init__" 1025 4 3 1477 939 4 (vs "moduleyard.types" 1463) (.none),
  [(969, oY "Obj" [.type "object"] [.ref 969, .type "object"] 968 "Obj" [none, none, some (vs "Obj" 1507), some (vs "Obj" 1515), some (.builtin "object.__new__"), some (.bool true)]), (968, oD [de P "__module__" 1514 (vs "moduleyard.types" 1463), de P "__firstlineno__" 1518 (.int 1038 1517), de P "__init__" 1529 (.ref 966), de P "__static_attributes__" 1544 (.ref 967), de P "__dict__" 1546 (.ref 970), de P "__weakref__" 1548 (.ref 971), de P "__doc__" 1549 (.none)] 4)],
  kD (metAt 133 0) "__init__" "Obj.__init__" 1040 5 3 1519 960 5 (vs "moduleyard.types" 1463) (.none),
  [(1005, oY "Types" [.type "object"] [.ref 1005, .type "object"] 1004 "Types" [none, none, some (vs "Types" 1552), some (vs "Types" 1560), some (.builtin "object.__new__"), some (.bool true)]), (1004, oD [de P "__module__" 1559 (vs "moduleyard.types" 1463), de P "__firstlineno__" 1563 (.int 1055 1562), de P "__init__" 1570 (.ref 987), de P "new" 1584 (.ref 995), de P "string" 1593 (.ref 1002), de P "__static_attributes__" 1603 (.ref 1003), de P "__dict__" 1605 (.ref 1006), de P "__weakref__" 1607 (.ref 1007), de P "__doc__" 1608 (.none)] 4)],
  kD (metAt 134 0) "__init__" "Types.__init__" 1057 1 3 1564 981 1 (vs "moduleyard.types" 1463) (.none),
  kD (metAt 134 1) "new" "Types.new" 1068 5 3 1573 989 6 (vs "moduleyard.types" 1463) (.ref 988),
  [(1026, oY "Scope" [.type "object"] [.ref 1026, .type "object"] 1025 "Scope" [none, none, some (vs "Scope" 1613), some (vs "Scope" 1621), some (.builtin "object.__new__"), some (.bool true)]), (1025, oD [de P "__module__" 1620 (vs "moduleyard.scopes" 1611), de P "__firstlineno__" 1624 (.int 1083 1623), de P "__init__" 1633 (.ref 1023), de P "__static_attributes__" 1639 (.ref 1024), de P "__dict__" 1641 (.ref 1027), de P "__weakref__" 1643 (.ref 1028), de P "__doc__" 1644 (.none)] 4)],
  kD (metAt 136 0) "__init__" "Scope.__init__" 1085 3 3 1625 1017 3 (vs "moduleyard.scopes" 1611) (.none),
  [(1089, oY "Scopes" [.type "object"] [.ref 1089, .type "object"] 1088 "Scopes" [none, none, some (vs "Scopes" 1647), some (vs "Scopes" 1655), some (.builtin "object.__new__"), some (.bool true)]), (1088, oD [de P "__module__" 1654 (vs "moduleyard.scopes" 1611), de P "__firstlineno__" 1658 (.int 1091 1657), de P "__init__" 1667 (.ref 1044), de P "open" 1676 (.ref 1051), de P "close" 1684 (.ref 1058), de P "current" 1691 (.ref 1065), de P "add" 1700 (.ref 1072), de P "insert" 1712 (.ref 1079), de P "find" 1721 (.ref 1086), de P "__static_attributes__" 1726 (.ref 1087), de P "__dict__" 1728 (.ref 1090), de P "__weakref__" 1730 (.ref 1091), de P "__doc__" 1731 (.none)] 4)],
  kD (metAt 137 0) "__init__" "Scopes.__init__" 1093 3 3 1659 1038 3 (vs "moduleyard.scopes" 1611) (.none),
  kD (metAt 137 1) "open" "Scopes.open" 1099 2 3 1668 1045 3 (vs "moduleyard.scopes" 1611) (.none),
  kD (metAt 137 4) "add" "Scopes.add" 1113 2 3 1692 1066 3 (vs "moduleyard.scopes" 1611) (.none),
  kD (metAt 137 5) "insert" "Scopes.insert" 1124 5 3 1701 1073 6 (vs "moduleyard.scopes" 1611) (.none),
  kD (metAt 137 6) "find" "Scopes.find" 1133 2 3 1713 1080 3 (vs "moduleyard.scopes" 1611) (.none),
  [(1181, oY "Reader" [.type "object"] [.ref 1181, .type "object"] 1180 "Reader" [none, none, some (vs "Reader" 1759), some (vs "Reader" 1767), some (.builtin "object.__new__"), some (.bool true)]), (1180, oD [de P "__module__" 1766 (vs "moduleyard.reader" 1757), de P "__firstlineno__" 1770 (.int 1155 1769), de P "__init__" 1781 (.ref 1129), de P "step" 1789 (.ref 1136), de P "at" 1797 (.ref 1143), de P "skip" 1805 (.ref 1150), de P "expect" 1814 (.ref 1157), de P "mark" 1822 (.ref 1164), de P "name" 1829 (.ref 1171), de P "skip_to" 1837 (.ref 1178), de P "__static_attributes__" 1849 (.ref 1179), de P "__dict__" 1851 (.ref 1182), de P "__weakref__" 1853 (.ref 1183), de P "__doc__" 1854 (.none)] 4)],
  kD (metAt 143 0) "__init__" "Reader.__init__" 1157 5 3 1771 1123 5 (vs "moduleyard.reader" 1757) (.ref 1122),
  kD (metAt 143 1) "step" "Reader.step" 1171 1 3 1782 1130 2 (vs "moduleyard.reader" 1757) (.none),
  kD (metAt 143 2) "at" "Reader.at" 1176 2 3 1790 1137 2 (vs "moduleyard.reader" 1757) (.none),
  kD (metAt 143 3) "skip" "Reader.skip" 1179 2 3 1798 1144 2 (vs "moduleyard.reader" 1757) (.none),
  kD (metAt 143 4) "expect" "Reader.expect" 1185 2 3 1806 1151 3 (vs "moduleyard.reader" 1757) (.none),
  kD (metAt 143 5) "mark" "Reader.mark" 1194 2 3 1815 1158 2 (vs "moduleyard.reader" 1757) (.none),
  kD (metAt 143 6) "name" "Reader.name" 1197 1 3 1823 1165 1 (vs "moduleyard.reader" 1757) (.none)]
noncomputable def faL : List Addr := [0, 0, 0, 50, 0, 0, 0, 0, 0, 85, 92, 0, 0, 0, 0, 0, 0, 0, 0, 0, 0, 0, 0, 0, 0, 0, 0, 0, 0, 0, 0, 0, 0, 0, 0, 0, 0, 0, 0, 260, 267, 274, 281, 288, 295, 0, 0, 0, 0, 0, 0, 337, 0, 344, 351, 358, 365, 372, 0, 0, 0, 0, 0, 0, 0, 414, 421, 428, 0, 0, 442, 0, 0, 0, 0, 0, 0, 0, 0, 0, 0, 0, 0, 0, 0, 0, 0, 0, 0, 0, 0, 0, 0, 0, 0, 0, 0, 0, 0, 601, 608, 615, 622, 629, 0, 0, 643, 0, 657, 664, 671, 678, 0, 0, 0, 0, 0, 0, 0, 0, 0, 0, 0, 0, 790, 797, 0, 804, 811, 818, 0, 0, 0, 0, 0, 0, 0, 0, 0, 1100, 1107, 1114, 0, 0, 0, 1192, 1199, 1206, 1213, 1220, 1227, 1234, 1241, 1246]
noncomputable def caL : List Addr := [0, 0, 39, 0, 0, 0, 0, 0, 0, 0, 0, 0, 0, 0, 0, 0, 0, 0, 0, 0, 0, 0, 0, 0, 0, 0, 0, 0, 0, 0, 0, 0, 0, 0, 0, 0, 0, 0, 0, 0, 0, 0, 0, 0, 0, 0, 0, 0, 0, 0, 0, 0, 0, 0, 0, 0, 0, 0, 0, 0, 0, 0, 0, 0, 0, 0, 0, 0, 0, 0, 0, 0, 0, 0, 0, 0, 0, 0, 0, 0, 0, 0, 0, 0, 0, 0, 0, 0, 0, 0, 0, 0, 0, 0, 0, 0, 0, 0, 0, 0, 0, 0, 0, 0, 0, 0, 0, 0, 0, 0, 0, 0, 0, 0, 0, 0, 0, 0, 0, 758, 0, 0, 0, 779, 0, 0, 0, 0, 0, 0, 927, 0, 948, 969, 1005, 0, 1026, 1089, 0, 0, 0, 0, 0, 1181]
noncomputable def maL : List (List Addr) := [[], [], [36], [], [], [], [], [], [], [], [], [], [], [], [], [], [], [], [], [], [], [], [], [], [], [], [], [], [], [], [], [], [], [], [], [], [], [], [], [], [], [], [], [], [], [], [], [], [], [], [], [], [], [], [], [], [], [], [], [], [], [], [], [], [], [], [], [], [], [], [], [], [], [], [], [], [], [], [], [], [], [], [], [], [], [], [], [], [], [], [], [], [], [], [], [], [], [], [], [], [], [], [], [], [], [], [], [], [], [], [], [], [], [], [], [], [], [], [], [734, 741], [], [], [], [776], [], [], [], [], [], [], [832, 840, 847, 854, 861, 868, 875, 882, 0, 0, 0, 0, 0, 924], [], [945], [966], [987, 995], [], [1023], [1044, 1051, 0, 0, 1072, 1079, 1086], [], [], [], [], [], [1129, 1136, 1143, 1150, 1157, 1164, 1171]]
theorem asL_ok (P : PySem.Params) : asL = (KF P).map (·.1) := by kernel_rfl
theorem look6 (P : PySem.Params) : asL.map (hH P).get? = (KF P).map fun p => some p.2 := by kernel_rfl
theorem looks_ok (w : World) : (fun os => ((staticsOk (importedModules PW.main.body) (boot_heap w.params) (hH w.params) && namesBound PW (hH w.params) && gensDone (shF w os) && laidKept (boot_heap w.params) (hH w.params)),
        openSeen QW looseL (importedModules PW.main.body) (fun _ => true) true (shF w os), asL.map (shF w os).heap.get?)) = fun _ => (true, openGood QW looseL, (KF w.params).map fun p => some p.2) := by
  funext os
  rw [imp_ok, look1, look2, look3, look4, look5, look6]; rfl
theorem left_ok : LeftO PW QW looseL (fun _ => true) (fun s => asL.map s.heap.get?) (fun w => (KF w.params).map fun p => some p.2) 15000 true := by
  refine LeftO.of_pieces (H₀ := boot_heap) (H₁ := hH) (gs₀ := #[]) (gs₁ := #[]) (d₀ := boot_drawn) (d₁ := boot_drawn) (k₀ := boot_toks) (k₁ := 1988) (m₀ := 11) (ann := annV) open_ok size_ok run_ok ?_ ?_
  · rfl
  · exact looks_ok
/-- what the walk shows of one setting -/
noncomputable def LawOK (c : Cx) : Prop := ∀ (σ : MH) (ml : Loc), c.sn.length ≤ 1000 → getM "script" ml = some (.ref c.sl) → SW c 30 (fScope (topAt 154)) (fBody (topAt 154)) ml σ (retP fun v _ => v = .bool true)
noncomputable def w0 : World := ⟨fun _ _ => 0, { strHash := fun _ => 0, shareClass := fun _ => 0, mergeTok := fun t => t, idOf := fun _ => 0, idOfShared := fun _ _ => 0, followText := fun _ => false, idOfImm := fun _ => 0 }⟩
theorem cx_ne : Nonempty Cx := ⟨⟨PW, w0, [], PW, [], fun _ => none, fun _ => none, fun _ => none, {}, 0, [], []⟩⟩
/-- a setting at which the law falls, if there is one -/
noncomputable def cw : Cx := @Classical.epsilon Cx cx_ne fun d => ¬ LawOK { d with K := KF d.w.params }
/-- the one setting that is walked -/
noncomputable def c : Cx := { cw with K := KF cw.w.params }
theorem cK : c.K = KF c.w.params := rfl
theorem of_c (h : LawOK c) (d : Cx) (hd : d.K = KF d.w.params) : LawOK d := by
  have e : ({ d with K := KF d.w.params } : Cx) = d := by rw [← hd]
  refine Classical.byContradiction fun hn => ?_
  have h2 : ¬ LawOK { cw with K := KF cw.w.params } := @Classical.epsilon_spec Cx (fun d => ¬ LawOK { d with K := KF d.w.params }) ⟨d, fun h3 => hn (e ▸ h3)⟩
  exact h2 h
noncomputable def pk.fa (i : Nat) : Addr := faL.getD i 0
noncomputable def pk.ma (i j : Nat) : Addr := (maL.getD i []).getD j 0
noncomputable def pk.ca (i : Nat) : Addr := caL.getD i 0
theorem pk.fconst : GF c 3 (Str.ofString "const") (Str.ofString "const") [Str.ofString "t", Str.ofString "value", Str.ofString "place"] 3 [] (pk.fa 3) := mk_gf cK (f := 50) (cd := 49) (q := "const") (m := (vs "moduleyard.trees" 194)) (by kernel_rfl) (by kernel_rfl) (by kernel_rfl) (vlen3 fun a b d => by kernel_rfl)
theorem pk.fisinteger : GF c 9 (Str.ofString "is_integer") (Str.ofString "is_integer") [Str.ofString "t"] 1 [] (pk.fa 9) := mk_gf cK (f := 85) (cd := 84) (q := "is_integer") (m := (vs "moduleyard.typerel" 265)) (by kernel_rfl) (by kernel_rfl) (by kernel_rfl) (vlen1 fun a => by kernel_rfl)
theorem pk.fistext : GF c 10 (Str.ofString "is_text") (Str.ofString "is_text") [Str.ofString "t"] 1 [] (pk.fa 10) := mk_gf cK (f := 92) (cd := 91) (q := "is_text") (m := (vs "moduleyard.typerel" 265)) (by kernel_rfl) (by kernel_rfl) (by kernel_rfl) (vlen1 fun a => by kernel_rfl)
theorem pk.fwrap : GF c 39 (Str.ofString "wrap") (Str.ofString "wrap") [Str.ofString "n"] 1 [] (pk.fa 39) := mk_gf cK (f := 260) (cd := 259) (q := "wrap") (m := (vs "moduleyard.consts" 522)) (by kernel_rfl) (by kernel_rfl) (by kernel_rfl) (vlen1 fun a => by kernel_rfl)
theorem pk.ffits : GF c 40 (Str.ofString "fits") (Str.ofString "fits") [Str.ofString "n"] 1 [] (pk.fa 40) := mk_gf cK (f := 267) (cd := 266) (q := "fits") (m := (vs "moduleyard.consts" 522)) (by kernel_rfl) (by kernel_rfl) (by kernel_rfl) (vlen1 fun a => by kernel_rfl)
theorem pk.fchecked : GF c 41 (Str.ofString "checked") (Str.ofString "checked") [Str.ofString "n"] 1 [] (pk.fa 41) := mk_gf cK (f := 274) (cd := 273) (q := "checked") (m := (vs "moduleyard.consts" 522)) (by kernel_rfl) (by kernel_rfl) (by kernel_rfl) (vlen1 fun a => by kernel_rfl)
theorem pk.ffoldunary : GF c 42 (Str.ofString "fold_unary") (Str.ofString "fold_unary") [Str.ofString "op", Str.ofString "x"] 2 [] (pk.fa 42) := mk_gf cK (f := 281) (cd := 280) (q := "fold_unary") (m := (vs "moduleyard.consts" 522)) (by kernel_rfl) (by kernel_rfl) (by kernel_rfl) (vlen2 fun a b => by kernel_rfl)
theorem pk.ffolddivision : GF c 43 (Str.ofString "fold_division") (Str.ofString "fold_division") [Str.ofString "op", Str.ofString "x", Str.ofString "y"] 3 [] (pk.fa 43) := mk_gf cK (f := 288) (cd := 287) (q := "fold_division") (m := (vs "moduleyard.consts" 522)) (by kernel_rfl) (by kernel_rfl) (by kernel_rfl) (vlen3 fun a b d => by kernel_rfl)
theorem pk.ffoldbinary : GF c 44 (Str.ofString "fold_binary") (Str.ofString "fold_binary") [Str.ofString "op", Str.ofString "x", Str.ofString "y"] 3 [] (pk.fa 44) := mk_gf cK (f := 295) (cd := 294) (q := "fold_binary") (m := (vs "moduleyard.consts" 522)) (by kernel_rfl) (by kernel_rfl) (by kernel_rfl) (vlen3 fun a b d => by kernel_rfl)
theorem pk.fisconst : GF c 51 (Str.ofString "is_const_checkops") (Str.ofString "is_const") [Str.ofString "node"] 1 [] (pk.fa 51) := mk_gf cK (f := 337) (cd := 336) (q := "is_const") (m := (vs "moduleyard.checkops" 622)) (by kernel_rfl) (by kernel_rfl) (by kernel_rfl) (vlen1 fun a => by kernel_rfl)
theorem pk.fwrong : GF c 53 (Str.ofString "wrong") (Str.ofString "wrong") [Str.ofString "errors", Str.ofString "t", Str.ofString "place", Str.ofString "code"] 4 [] (pk.fa 53) := mk_gf cK (f := 344) (cd := 343) (q := "wrong") (m := (vs "moduleyard.checkops" 622)) (by kernel_rfl) (by kernel_rfl) (by kernel_rfl) (vlen4 fun a b d e => by kernel_rfl)
theorem pk.funary : GF c 54 (Str.ofString "unary") (Str.ofString "unary") [Str.ofString "types", Str.ofString "errors", Str.ofString "op", Str.ofString "node", Str.ofString "place"] 5 [] (pk.fa 54) := mk_gf cK (f := 351) (cd := 350) (q := "unary") (m := (vs "moduleyard.checkops" 622)) (by kernel_rfl) (by kernel_rfl) (by kernel_rfl) (vlen5 fun a b d e f => by kernel_rfl)
theorem pk.funarynode : GF c 55 (Str.ofString "unary_node") (Str.ofString "unary_node") [Str.ofString "errors", Str.ofString "op", Str.ofString "t", Str.ofString "node", Str.ofString "place"] 5 [] (pk.fa 55) := mk_gf cK (f := 358) (cd := 357) (q := "unary_node") (m := (vs "moduleyard.checkops" 622)) (by kernel_rfl) (by kernel_rfl) (by kernel_rfl) (vlen5 fun a b d e f => by kernel_rfl)
theorem pk.fbinary : GF c 56 (Str.ofString "binary") (Str.ofString "binary") [Str.ofString "types", Str.ofString "errors", Str.ofString "op", Str.ofString "x", Str.ofString "y", Str.ofString "place"] 6 [] (pk.fa 56) := mk_gf cK (f := 365) (cd := 364) (q := "binary") (m := (vs "moduleyard.checkops" 622)) (by kernel_rfl) (by kernel_rfl) (by kernel_rfl) (vlen6 fun a b d e f g => by kernel_rfl)
theorem pk.fbinarynode : GF c 57 (Str.ofString "binary_node") (Str.ofString "binary_node") [Str.ofString "errors", Str.ofString "op", Str.ofString "t", Str.ofString "x", Str.ofString "y", Str.ofString "place"] 6 [] (pk.fa 57) := mk_gf cK (f := 372) (cd := 371) (q := "binary_node") (m := (vs "moduleyard.checkops" 622)) (by kernel_rfl) (by kernel_rfl) (by kernel_rfl) (vlen6 fun a b d e f g => by kernel_rfl)
theorem pk.fcompared : GF c 65 (Str.ofString "compared") (Str.ofString "compared") [Str.ofString "op", Str.ofString "x", Str.ofString "y"] 3 [] (pk.fa 65) := mk_gf cK (f := 414) (cd := 413) (q := "compared") (m := (vs "moduleyard.checkrel" 724)) (by kernel_rfl) (by kernel_rfl) (by kernel_rfl) (vlen3 fun a b d => by kernel_rfl)
theorem pk.freferred : GF c 66 (Str.ofString "referred") (Str.ofString "referred") [Str.ofString "x", Str.ofString "y"] 2 [] (pk.fa 66) := mk_gf cK (f := 421) (cd := 420) (q := "referred") (m := (vs "moduleyard.checkrel" 724)) (by kernel_rfl) (by kernel_rfl) (by kernel_rfl) (vlen2 fun a b => by kernel_rfl)
theorem pk.frelation : GF c 67 (Str.ofString "relation") (Str.ofString "relation") [Str.ofString "types", Str.ofString "errors", Str.ofString "op", Str.ofString "x", Str.ofString "y", Str.ofString "place"] 6 [] (pk.fa 67) := mk_gf cK (f := 428) (cd := 427) (q := "relation") (m := (vs "moduleyard.checkrel" 724)) (by kernel_rfl) (by kernel_rfl) (by kernel_rfl) (vlen6 fun a b d e f g => by kernel_rfl)
theorem pk.fmember : GF c 70 (Str.ofString "member") (Str.ofString "member") [Str.ofString "types", Str.ofString "errors", Str.ofString "x", Str.ofString "y", Str.ofString "place"] 5 [] (pk.fa 70) := mk_gf cK (f := 442) (cd := 441) (q := "member") (m := (vs "moduleyard.checkrel" 724)) (by kernel_rfl) (by kernel_rfl) (by kernel_rfl) (vlen5 fun a b d e f => by kernel_rfl)
theorem pk.fqualident : GF c 99 (Str.ofString "qualident") (Str.ofString "qualident") [Str.ofString "rd"] 1 [] (pk.fa 99) := mk_gf cK (f := 601) (cd := 600) (q := "qualident") (m := (vs "moduleyard.desigparse" 1000)) (by kernel_rfl) (by kernel_rfl) (by kernel_rfl) (vlen1 fun a => by kernel_rfl)
theorem pk.fobjectnode : GF c 100 (Str.ofString "object_node") (Str.ofString "object_node") [Str.ofString "rd", Str.ofString "found", Str.ofString "place"] 3 [] (pk.fa 100) := mk_gf cK (f := 608) (cd := 607) (q := "object_node") (m := (vs "moduleyard.desigparse" 1000)) (by kernel_rfl) (by kernel_rfl) (by kernel_rfl) (vlen3 fun a b d => by kernel_rfl)
theorem pk.fvariablenode : GF c 101 (Str.ofString "variable_node") (Str.ofString "variable_node") [Str.ofString "found", Str.ofString "place"] 2 [] (pk.fa 101) := mk_gf cK (f := 615) (cd := 614) (q := "variable_node") (m := (vs "moduleyard.desigparse" 1000)) (by kernel_rfl) (by kernel_rfl) (by kernel_rfl) (vlen2 fun a b => by kernel_rfl)
theorem pk.fdesignator : GF c 102 (Str.ofString "designator") (Str.ofString "designator") [Str.ofString "rd", Str.ofString "expression"] 2 [] (pk.fa 102) := mk_gf cK (f := 622) (cd := 621) (q := "designator") (m := (vs "moduleyard.desigparse" 1000)) (by kernel_rfl) (by kernel_rfl) (by kernel_rfl) (vlen2 fun a b => by kernel_rfl)
theorem pk.fselectors : GF c 103 (Str.ofString "selectors") (Str.ofString "selectors") [Str.ofString "rd", Str.ofString "node", Str.ofString "expression"] 3 [] (pk.fa 103) := mk_gf cK (f := 629) (cd := 628) (q := "selectors") (m := (vs "moduleyard.desigparse" 1000)) (by kernel_rfl) (by kernel_rfl) (by kernel_rfl) (vlen3 fun a b d => by kernel_rfl)
theorem pk.fexpression : GF c 106 (Str.ofString "expression") (Str.ofString "expression") [Str.ofString "rd"] 1 [] (pk.fa 106) := mk_gf cK (f := 643) (cd := 642) (q := "expression") (m := (vs "moduleyard.exprparse" 1064)) (by kernel_rfl) (by kernel_rfl) (by kernel_rfl) (vlen1 fun a => by kernel_rfl)
theorem pk.fsimpleexpression : GF c 108 (Str.ofString "simple_expression") (Str.ofString "simple_expression") [Str.ofString "rd"] 1 [] (pk.fa 108) := mk_gf cK (f := 657) (cd := 656) (q := "simple_expression") (m := (vs "moduleyard.exprparse" 1064)) (by kernel_rfl) (by kernel_rfl) (by kernel_rfl) (vlen1 fun a => by kernel_rfl)
theorem pk.fterm : GF c 109 (Str.ofString "term") (Str.ofString "term") [Str.ofString "rd"] 1 [] (pk.fa 109) := mk_gf cK (f := 664) (cd := 663) (q := "term") (m := (vs "moduleyard.exprparse" 1064)) (by kernel_rfl) (by kernel_rfl) (by kernel_rfl) (vlen1 fun a => by kernel_rfl)
theorem pk.ffactor : GF c 110 (Str.ofString "factor") (Str.ofString "factor") [Str.ofString "rd"] 1 [] (pk.fa 110) := mk_gf cK (f := 671) (cd := 670) (q := "factor") (m := (vs "moduleyard.exprparse" 1064)) (by kernel_rfl) (by kernel_rfl) (by kernel_rfl) (vlen1 fun a => by kernel_rfl)
theorem pk.fnamedfactor : GF c 111 (Str.ofString "named_factor") (Str.ofString "named_factor") [Str.ofString "rd"] 1 [] (pk.fa 111) := mk_gf cK (f := 678) (cd := 677) (q := "named_factor") (m := (vs "moduleyard.exprparse" 1064)) (by kernel_rfl) (by kernel_rfl) (by kernel_rfl) (vlen1 fun a => by kernel_rfl)
theorem pk.fkeywords : GF c 124 (Str.ofString "keywords") (Str.ofString "keywords") [] 0 [] (pk.fa 124) := mk_gf cK (f := 790) (cd := 789) (q := "keywords") (m := (vs "moduleyard.scanner" 1229)) (by kernel_rfl) (by kernel_rfl) (by kernel_rfl) (vlen0 (by kernel_rfl))
theorem pk.fisletter : GF c 125 (Str.ofString "is_letter_scanner") (Str.ofString "is_letter") [Str.ofString "char"] 1 [] (pk.fa 125) := mk_gf cK (f := 797) (cd := 796) (q := "is_letter") (m := (vs "moduleyard.scanner" 1229)) (by kernel_rfl) (by kernel_rfl) (by kernel_rfl) (vlen1 fun a => by kernel_rfl)
theorem pk.fisdigit : GF c 127 (Str.ofString "is_digit") (Str.ofString "is_digit") [Str.ofString "char"] 1 [] (pk.fa 127) := mk_gf cK (f := 804) (cd := 803) (q := "is_digit") (m := (vs "moduleyard.scanner" 1229)) (by kernel_rfl) (by kernel_rfl) (by kernel_rfl) (vlen1 fun a => by kernel_rfl)
theorem pk.fishexdigit : GF c 128 (Str.ofString "is_hex_digit") (Str.ofString "is_hex_digit") [Str.ofString "char"] 1 [] (pk.fa 128) := mk_gf cK (f := 811) (cd := 810) (q := "is_hex_digit") (m := (vs "moduleyard.scanner" 1229)) (by kernel_rfl) (by kernel_rfl) (by kernel_rfl) (vlen1 fun a => by kernel_rfl)
theorem pk.fdigitsvalue : GF c 129 (Str.ofString "digits_value") (Str.ofString "digits_value") [Str.ofString "digits", Str.ofString "base", Str.ofString "most"] 3 [] (pk.fa 129) := mk_gf cK (f := 818) (cd := 817) (q := "digits_value") (m := (vs "moduleyard.scanner" 1229)) (by kernel_rfl) (by kernel_rfl) (by kernel_rfl) (vlen3 fun a b d => by kernel_rfl)
theorem pk.fstdfunctions : GF c 139 (Str.ofString "std_functions") (Str.ofString "std_functions") [] 0 [] (pk.fa 139) := mk_gf cK (f := 1100) (cd := 1099) (q := "std_functions") (m := (vs "moduleyard.universe" 1734)) (by kernel_rfl) (by kernel_rfl) (by kernel_rfl) (vlen0 (by kernel_rfl))
theorem pk.fstdprocedures : GF c 140 (Str.ofString "std_procedures") (Str.ofString "std_procedures") [] 0 [] (pk.fa 140) := mk_gf cK (f := 1107) (cd := 1106) (q := "std_procedures") (m := (vs "moduleyard.universe" 1734)) (by kernel_rfl) (by kernel_rfl) (by kernel_rfl) (vlen0 (by kernel_rfl))
theorem pk.ffill : GF c 141 (Str.ofString "fill") (Str.ofString "fill") [Str.ofString "scopes"] 1 [] (pk.fa 141) := mk_gf cK (f := 1114) (cd := 1113) (q := "fill") (m := (vs "moduleyard.universe" 1734)) (by kernel_rfl) (by kernel_rfl) (by kernel_rfl) (vlen1 fun a => by kernel_rfl)
theorem pk.fLpool : GF c 145 (Str.ofString "_law_pool") (Str.ofString "_law_pool") [Str.ofString "script"] 1 [] (pk.fa 145) := mk_gf cK (f := 1192) (cd := 1191) (q := "_law_pool") (m := (vs "law_nu0352_01" 1857)) (by kernel_rfl) (by kernel_rfl) (by kernel_rfl) (vlen1 fun a => by kernel_rfl)
theorem pk.fLpick : GF c 146 (Str.ofString "_law_pick") (Str.ofString "_law_pick") [Str.ofString "pool", Str.ofString "limit"] 2 [] (pk.fa 146) := mk_gf cK (f := 1199) (cd := 1198) (q := "_law_pick") (m := (vs "law_nu0352_01" 1857)) (by kernel_rfl) (by kernel_rfl) (by kernel_rfl) (vlen2 fun a b => by kernel_rfl)
theorem pk.fLput : GF c 147 (Str.ofString "_law_put") (Str.ofString "_law_put") [Str.ofString "pool", Str.ofString "world", Str.ofString "row"] 3 [] (pk.fa 147) := mk_gf cK (f := 1206) (cd := 1205) (q := "_law_put") (m := (vs "law_nu0352_01" 1857)) (by kernel_rfl) (by kernel_rfl) (by kernel_rfl) (vlen3 fun a b d => by kernel_rfl)
theorem pk.fLlack : GF c 148 (Str.ofString "_law_lack") (Str.ofString "_law_lack") [Str.ofString "world", Str.ofString "spot"] 2 [] (pk.fa 148) := mk_gf cK (f := 1213) (cd := 1212) (q := "_law_lack") (m := (vs "law_nu0352_01" 1857)) (by kernel_rfl) (by kernel_rfl) (by kernel_rfl) (vlen2 fun a b => by kernel_rfl)
theorem pk.fLreduce : GF c 149 (Str.ofString "_law_reduce") (Str.ofString "_law_reduce") [Str.ofString "done", Str.ofString "waiting"] 2 [] (pk.fa 149) := mk_gf cK (f := 1220) (cd := 1219) (q := "_law_reduce") (m := (vs "law_nu0352_01" 1857)) (by kernel_rfl) (by kernel_rfl) (by kernel_rfl) (vlen2 fun a b => by kernel_rfl)
theorem pk.fLrow : GF c 150 (Str.ofString "_law_row") (Str.ofString "_law_row") [Str.ofString "pool", Str.ofString "world", Str.ofString "kind", Str.ofString "deep"] 4 [] (pk.fa 150) := mk_gf cK (f := 1227) (cd := 1226) (q := "_law_row") (m := (vs "law_nu0352_01" 1857)) (by kernel_rfl) (by kernel_rfl) (by kernel_rfl) (vlen4 fun a b d e => by kernel_rfl)
theorem pk.fLrelation : GF c 151 (Str.ofString "_law_relation") (Str.ofString "_law_relation") [Str.ofString "pool", Str.ofString "world", Str.ofString "deep"] 3 [] (pk.fa 151) := mk_gf cK (f := 1234) (cd := 1233) (q := "_law_relation") (m := (vs "law_nu0352_01" 1857)) (by kernel_rfl) (by kernel_rfl) (by kernel_rfl) (vlen3 fun a b d => by kernel_rfl)
theorem pk.fLoperand : GF c 152 (Str.ofString "_law_operand") (Str.ofString "_law_operand") [Str.ofString "pool", Str.ofString "world", Str.ofString "kind", Str.ofString "deep", Str.ofString "plain", Str.ofString "behind"] 6 [] (pk.fa 152) := mk_gf cK (f := 1241) (cd := 1240) (q := "_law_operand") (m := (vs "law_nu0352_01" 1857)) (by kernel_rfl) (by kernel_rfl) (by kernel_rfl) (vlen6 fun a b d e f g => by kernel_rfl)
theorem pk.fLshape : GF c 153 (Str.ofString "_law_shape") (Str.ofString "_law_shape") [Str.ofString "node"] 1 [] (pk.fa 153) := mk_gf cK (f := 1246) (cd := 1245) (q := "_law_shape") (m := (vs "law_nu0352_01" 1857)) (by kernel_rfl) (by kernel_rfl) (by kernel_rfl) (vlen1 fun a => by kernel_rfl)
theorem pk.cNode : GC c (Str.ofString "Node") [Str.ofString "op", Str.ofString "place", Str.ofString "type", Str.ofString "kids", Str.ofString "value", Str.ofString "sure"] [(Str.ofString "__init__", pk.ma 2 0)] (pk.ca 2) := mk_gc cK (C := 39) (by kernel_rfl) (by kernel_rfl) (by kernel_rfl)
theorem pk.mNode_initF : MF c 2 0 (Str.ofString "Node.__init__") [Str.ofString "self", Str.ofString "op", Str.ofString "place", Str.ofString "type_of", Str.ofString "kids", Str.ofString "value"] 6 [] (pk.ma 2 0) := ⟨fdef1 cK (f := 36) (cd := 35) (T := 29) (q := "Node.__init__") (m := (vs "moduleyard.trees" 194)) (items := [.none]) (dvs := []) (by kernel_rfl) (by kernel_rfl) (by kernel_rfl) (fun _ => .nil) (vlen6 fun a b d e f g => ⟨_, rfl, rfl⟩)⟩
theorem pk.mNode_init : MF c 2 0 (Str.ofString "Node.__init__") [Str.ofString "self", Str.ofString "op", Str.ofString "place", Str.ofString "type_of", Str.ofString "kids", Str.ofString "value"] 5 [.none] (pk.ma 2 0) := ⟨fdef1 cK (f := 36) (cd := 35) (T := 29) (q := "Node.__init__") (m := (vs "moduleyard.trees" 194)) (items := [.none]) (dvs := [.none]) (by kernel_rfl) (by kernel_rfl) (by kernel_rfl) (fun _ => .cons (.none) .nil) (vlen5 fun a b d e f => ⟨_, rfl, rfl⟩)⟩
theorem pk.cErrorList : GC c (Str.ofString "ErrorList") [Str.ofString "rows", Str.ofString "places"] [(Str.ofString "__init__", pk.ma 119 0), (Str.ofString "mark", pk.ma 119 1)] (pk.ca 119) := mk_gc cK (C := 758) (by kernel_rfl) (by kernel_rfl) (by kernel_rfl)
theorem pk.mErrorList_init : MF c 119 0 (Str.ofString "ErrorList.__init__") [Str.ofString "self"] 1 [] (pk.ma 119 0) := ⟨fdef0 cK (f := 734) (cd := 733) (q := "ErrorList.__init__") (m := (vs "moduleyard.errors" 1175)) (by kernel_rfl) (by kernel_rfl) (vlen1 fun a => by kernel_rfl)⟩
theorem pk.mErrorList_mark : MF c 119 1 (Str.ofString "ErrorList.mark") [Str.ofString "self", Str.ofString "place", Str.ofString "code"] 3 [] (pk.ma 119 1) := ⟨fdef0 cK (f := 741) (cd := 740) (q := "ErrorList.mark") (m := (vs "moduleyard.errors" 1175)) (by kernel_rfl) (by kernel_rfl) (vlen3 fun a b d => by kernel_rfl)⟩
theorem pk.cToken : GC c (Str.ofString "Token") [Str.ofString "kind", Str.ofString "value", Str.ofString "place"] [(Str.ofString "__init__", pk.ma 123 0)] (pk.ca 123) := mk_gc cK (C := 779) (by kernel_rfl) (by kernel_rfl) (by kernel_rfl)
theorem pk.mToken_init : MF c 123 0 (Str.ofString "Token.__init__") [Str.ofString "self", Str.ofString "kind", Str.ofString "value", Str.ofString "place"] 4 [] (pk.ma 123 0) := ⟨fdef0 cK (f := 776) (cd := 775) (q := "Token.__init__") (m := (vs "moduleyard.scanner" 1229)) (by kernel_rfl) (by kernel_rfl) (vlen4 fun a b d e => by kernel_rfl)⟩
theorem pk.cScanner : GC c (Str.ofString "Scanner") [Str.ofString "source", Str.ofString "errors", Str.ofString "place", Str.ofString "words"] [(Str.ofString "__init__", pk.ma 130 0), (Str.ofString "char", pk.ma 130 1), (Str.ofString "take", pk.ma 130 2), (Str.ofString "skip", pk.ma 130 3), (Str.ofString "remark", pk.ma 130 4), (Str.ofString "word", pk.ma 130 5), (Str.ofString "numeral", pk.ma 130 6), (Str.ofString "whole", pk.ma 130 7), (Str.ofString "symbol", pk.ma 130 13)] (pk.ca 130) := mk_gc cK (C := 927) (by kernel_rfl) (by kernel_rfl) (by kernel_rfl)
theorem pk.mScanner_init : MF c 130 0 (Str.ofString "Scanner.__init__") [Str.ofString "self", Str.ofString "source", Str.ofString "errors"] 3 [] (pk.ma 130 0) := ⟨fdef0 cK (f := 832) (cd := 831) (q := "Scanner.__init__") (m := (vs "moduleyard.scanner" 1229)) (by kernel_rfl) (by kernel_rfl) (vlen3 fun a b d => by kernel_rfl)⟩
theorem pk.mScanner_charF : MF c 130 1 (Str.ofString "Scanner.char") [Str.ofString "self", Str.ofString "ahead"] 2 [] (pk.ma 130 1) := ⟨fdef1 cK (f := 840) (cd := 839) (T := 833) (q := "Scanner.char") (m := (vs "moduleyard.scanner" 1229)) (items := [.int 0 1328]) (dvs := []) (by kernel_rfl) (by kernel_rfl) (by kernel_rfl) (fun _ => .nil) (vlen2 fun a b => ⟨_, rfl, rfl⟩)⟩
theorem pk.mScanner_char : MF c 130 1 (Str.ofString "Scanner.char") [Str.ofString "self", Str.ofString "ahead"] 1 [.int 0] (pk.ma 130 1) := ⟨fdef1 cK (f := 840) (cd := 839) (T := 833) (q := "Scanner.char") (m := (vs "moduleyard.scanner" 1229)) (items := [.int 0 1328]) (dvs := [.int 0 1328]) (by kernel_rfl) (by kernel_rfl) (by kernel_rfl) (fun _ => .cons (.int _ _) .nil) (vlen1 fun a => ⟨_, rfl, rfl⟩)⟩
theorem pk.mScanner_take : MF c 130 2 (Str.ofString "Scanner.take") [Str.ofString "self"] 1 [] (pk.ma 130 2) := ⟨fdef0 cK (f := 847) (cd := 846) (q := "Scanner.take") (m := (vs "moduleyard.scanner" 1229)) (by kernel_rfl) (by kernel_rfl) (vlen1 fun a => by kernel_rfl)⟩
theorem pk.mScanner_skip : MF c 130 3 (Str.ofString "Scanner.skip") [Str.ofString "self"] 1 [] (pk.ma 130 3) := ⟨fdef0 cK (f := 854) (cd := 853) (q := "Scanner.skip") (m := (vs "moduleyard.scanner" 1229)) (by kernel_rfl) (by kernel_rfl) (vlen1 fun a => by kernel_rfl)⟩
theorem pk.mScanner_remark : MF c 130 4 (Str.ofString "Scanner.remark") [Str.ofString "self"] 1 [] (pk.ma 130 4) := ⟨fdef0 cK (f := 861) (cd := 860) (q := "Scanner.remark") (m := (vs "moduleyard.scanner" 1229)) (by kernel_rfl) (by kernel_rfl) (vlen1 fun a => by kernel_rfl)⟩
theorem pk.mScanner_word : MF c 130 5 (Str.ofString "Scanner.word") [Str.ofString "self", Str.ofString "begun"] 2 [] (pk.ma 130 5) := ⟨fdef0 cK (f := 868) (cd := 867) (q := "Scanner.word") (m := (vs "moduleyard.scanner" 1229)) (by kernel_rfl) (by kernel_rfl) (vlen2 fun a b => by kernel_rfl)⟩
theorem pk.mScanner_numeral : MF c 130 6 (Str.ofString "Scanner.numeral") [Str.ofString "self", Str.ofString "begun"] 2 [] (pk.ma 130 6) := ⟨fdef0 cK (f := 875) (cd := 874) (q := "Scanner.numeral") (m := (vs "moduleyard.scanner" 1229)) (by kernel_rfl) (by kernel_rfl) (vlen2 fun a b => by kernel_rfl)⟩
theorem pk.mScanner_whole : MF c 130 7 (Str.ofString "Scanner.whole") [Str.ofString "self", Str.ofString "begun", Str.ofString "value", Str.ofString "most"] 4 [] (pk.ma 130 7) := ⟨fdef0 cK (f := 882) (cd := 881) (q := "Scanner.whole") (m := (vs "moduleyard.scanner" 1229)) (by kernel_rfl) (by kernel_rfl) (vlen4 fun a b d e => by kernel_rfl)⟩
theorem pk.mScanner_symbol : MF c 130 13 (Str.ofString "Scanner.symbol") [Str.ofString "self"] 1 [] (pk.ma 130 13) := ⟨fdef0 cK (f := 924) (cd := 923) (q := "Scanner.symbol") (m := (vs "moduleyard.scanner" 1229)) (by kernel_rfl) (by kernel_rfl) (vlen1 fun a => by kernel_rfl)⟩
theorem pk.cType : GC c (Str.ofString "Type") [Str.ofString "number", Str.ofString "form", Str.ofString "size", Str.ofString "base", Str.ofString "length", Str.ofString "fields", Str.ofString "level", Str.ofString "params", Str.ofString "module", Str.ofString "label", Str.ofString "hidden", Str.ofString "exno"] [(Str.ofString "__init__", pk.ma 132 0)] (pk.ca 132) := mk_gc cK (C := 948) (by kernel_rfl) (by kernel_rfl) (by kernel_rfl)
theorem pk.mType_init : MF c 132 0 (Str.ofString "Type.__init__") [Str.ofString "self", Str.ofString "number", Str.ofString "form", Str.ofString "size"] 4 [] (pk.ma 132 0) := ⟨fdef0 cK (f := 945) (cd := 944) (q := "Type.__init__") (m := (vs "moduleyard.types" 1463)) (by kernel_rfl) (by kernel_rfl) (vlen4 fun a b d e => by kernel_rfl)⟩
theorem pk.cObj : GC c (Str.ofString "Obj") [Str.ofString "name", Str.ofString "kind", Str.ofString "type", Str.ofString "place", Str.ofString "exported", Str.ofString "readonly", Str.ofString "level", Str.ofString "module", Str.ofString "value", Str.ofString "slot", Str.ofString "offset", Str.ofString "number", Str.ofString "isparam", Str.ofString "narrowed"] [(Str.ofString "__init__", pk.ma 133 0)] (pk.ca 133) := mk_gc cK (C := 969) (by kernel_rfl) (by kernel_rfl) (by kernel_rfl)
theorem pk.mObj_init : MF c 133 0 (Str.ofString "Obj.__init__") [Str.ofString "self", Str.ofString "name", Str.ofString "kind", Str.ofString "type_of", Str.ofString "place"] 5 [] (pk.ma 133 0) := ⟨fdef0 cK (f := 966) (cd := 965) (q := "Obj.__init__") (m := (vs "moduleyard.types" 1463)) (by kernel_rfl) (by kernel_rfl) (vlen5 fun a b d e f => by kernel_rfl)⟩
theorem pk.cTypes : GC c (Str.ofString "Types") [Str.ofString "counter", Str.ofString "known", Str.ofString "boolean", Str.ofString "char", Str.ofString "byte", Str.ofString "integer", Str.ofString "mask", Str.ofString "nil", Str.ofString "none"] [(Str.ofString "__init__", pk.ma 134 0), (Str.ofString "new", pk.ma 134 1)] (pk.ca 134) := mk_gc cK (C := 1005) (by kernel_rfl) (by kernel_rfl) (by kernel_rfl)
theorem pk.mTypes_init : MF c 134 0 (Str.ofString "Types.__init__") [Str.ofString "self"] 1 [] (pk.ma 134 0) := ⟨fdef0 cK (f := 987) (cd := 986) (q := "Types.__init__") (m := (vs "moduleyard.types" 1463)) (by kernel_rfl) (by kernel_rfl) (vlen1 fun a => by kernel_rfl)⟩
theorem pk.mTypes_new : MF c 134 1 (Str.ofString "Types.new") [Str.ofString "self", Str.ofString "form", Str.ofString "size", Str.ofString "module", Str.ofString "label"] 3 [.str (Str.ofString ""), .str (Str.ofString "")] (pk.ma 134 1) := ⟨fdef1 cK (f := 995) (cd := 994) (T := 988) (q := "Types.new") (m := (vs "moduleyard.types" 1463)) (items := [vs "" 1571, vs "" 1572]) (dvs := [vs "" 1571, vs "" 1572]) (by kernel_rfl) (by kernel_rfl) (by kernel_rfl) (fun _ => .cons (.str _ _) (.cons (.str _ _) .nil)) (vlen3 fun a b d => ⟨_, rfl, rfl⟩)⟩
theorem pk.cScope : GC c (Str.ofString "Scope") [Str.ofString "level", Str.ofString "label", Str.ofString "names", Str.ofString "order", Str.ofString "slots"] [(Str.ofString "__init__", pk.ma 136 0)] (pk.ca 136) := mk_gc cK (C := 1026) (by kernel_rfl) (by kernel_rfl) (by kernel_rfl)
theorem pk.mScope_init : MF c 136 0 (Str.ofString "Scope.__init__") [Str.ofString "self", Str.ofString "level", Str.ofString "label"] 3 [] (pk.ma 136 0) := ⟨fdef0 cK (f := 1023) (cd := 1022) (q := "Scope.__init__") (m := (vs "moduleyard.scopes" 1611)) (by kernel_rfl) (by kernel_rfl) (vlen3 fun a b d => by kernel_rfl)⟩
theorem pk.cScopes : GC c (Str.ofString "Scopes") [Str.ofString "types", Str.ofString "module", Str.ofString "stack", Str.ofString "level"] [(Str.ofString "__init__", pk.ma 137 0), (Str.ofString "open", pk.ma 137 1), (Str.ofString "add", pk.ma 137 4), (Str.ofString "insert", pk.ma 137 5), (Str.ofString "find", pk.ma 137 6)] (pk.ca 137) := mk_gc cK (C := 1089) (by kernel_rfl) (by kernel_rfl) (by kernel_rfl)
theorem pk.mScopes_init : MF c 137 0 (Str.ofString "Scopes.__init__") [Str.ofString "self", Str.ofString "types", Str.ofString "module"] 3 [] (pk.ma 137 0) := ⟨fdef0 cK (f := 1044) (cd := 1043) (q := "Scopes.__init__") (m := (vs "moduleyard.scopes" 1611)) (by kernel_rfl) (by kernel_rfl) (vlen3 fun a b d => by kernel_rfl)⟩
theorem pk.mScopes_open : MF c 137 1 (Str.ofString "Scopes.open") [Str.ofString "self", Str.ofString "label"] 2 [] (pk.ma 137 1) := ⟨fdef0 cK (f := 1051) (cd := 1050) (q := "Scopes.open") (m := (vs "moduleyard.scopes" 1611)) (by kernel_rfl) (by kernel_rfl) (vlen2 fun a b => by kernel_rfl)⟩
theorem pk.mScopes_add : MF c 137 4 (Str.ofString "Scopes.add") [Str.ofString "self", Str.ofString "obj"] 2 [] (pk.ma 137 4) := ⟨fdef0 cK (f := 1072) (cd := 1071) (q := "Scopes.add") (m := (vs "moduleyard.scopes" 1611)) (by kernel_rfl) (by kernel_rfl) (vlen2 fun a b => by kernel_rfl)⟩
theorem pk.mScopes_insert : MF c 137 5 (Str.ofString "Scopes.insert") [Str.ofString "self", Str.ofString "name", Str.ofString "kind", Str.ofString "t", Str.ofString "place"] 5 [] (pk.ma 137 5) := ⟨fdef0 cK (f := 1079) (cd := 1078) (q := "Scopes.insert") (m := (vs "moduleyard.scopes" 1611)) (by kernel_rfl) (by kernel_rfl) (vlen5 fun a b d e f => by kernel_rfl)⟩
theorem pk.mScopes_find : MF c 137 6 (Str.ofString "Scopes.find") [Str.ofString "self", Str.ofString "name"] 2 [] (pk.ma 137 6) := ⟨fdef0 cK (f := 1086) (cd := 1085) (q := "Scopes.find") (m := (vs "moduleyard.scopes" 1611)) (by kernel_rfl) (by kernel_rfl) (vlen2 fun a b => by kernel_rfl)⟩
theorem pk.cReader : GC c (Str.ofString "Reader") [Str.ofString "scanner", Str.ofString "types", Str.ofString "errors", Str.ofString "importer", Str.ofString "scopes", Str.ofString "module", Str.ofString "procs", Str.ofString "records", Str.ofString "forwards", Str.ofString "level", Str.ofString "token"] [(Str.ofString "__init__", pk.ma 143 0), (Str.ofString "step", pk.ma 143 1), (Str.ofString "at", pk.ma 143 2), (Str.ofString "skip", pk.ma 143 3), (Str.ofString "expect", pk.ma 143 4), (Str.ofString "mark", pk.ma 143 5), (Str.ofString "name", pk.ma 143 6)] (pk.ca 143) := mk_gc cK (C := 1181) (by kernel_rfl) (by kernel_rfl) (by kernel_rfl)
theorem pk.mReader_init : MF c 143 0 (Str.ofString "Reader.__init__") [Str.ofString "self", Str.ofString "source", Str.ofString "types", Str.ofString "errors", Str.ofString "importer"] 4 [.none] (pk.ma 143 0) := ⟨fdef1 cK (f := 1129) (cd := 1128) (T := 1122) (q := "Reader.__init__") (m := (vs "moduleyard.reader" 1757)) (items := [.none]) (dvs := [.none]) (by kernel_rfl) (by kernel_rfl) (by kernel_rfl) (fun _ => .cons (.none) .nil) (vlen4 fun a b d e => ⟨_, rfl, rfl⟩)⟩
theorem pk.mReader_step : MF c 143 1 (Str.ofString "Reader.step") [Str.ofString "self"] 1 [] (pk.ma 143 1) := ⟨fdef0 cK (f := 1136) (cd := 1135) (q := "Reader.step") (m := (vs "moduleyard.reader" 1757)) (by kernel_rfl) (by kernel_rfl) (vlen1 fun a => by kernel_rfl)⟩
theorem pk.mReader_at : MF c 143 2 (Str.ofString "Reader.at") [Str.ofString "self", Str.ofString "kind"] 2 [] (pk.ma 143 2) := ⟨fdef0 cK (f := 1143) (cd := 1142) (q := "Reader.at") (m := (vs "moduleyard.reader" 1757)) (by kernel_rfl) (by kernel_rfl) (vlen2 fun a b => by kernel_rfl)⟩
theorem pk.mReader_skip : MF c 143 3 (Str.ofString "Reader.skip") [Str.ofString "self", Str.ofString "kind"] 2 [] (pk.ma 143 3) := ⟨fdef0 cK (f := 1150) (cd := 1149) (q := "Reader.skip") (m := (vs "moduleyard.reader" 1757)) (by kernel_rfl) (by kernel_rfl) (vlen2 fun a b => by kernel_rfl)⟩
theorem pk.mReader_expect : MF c 143 4 (Str.ofString "Reader.expect") [Str.ofString "self", Str.ofString "kind"] 2 [] (pk.ma 143 4) := ⟨fdef0 cK (f := 1157) (cd := 1156) (q := "Reader.expect") (m := (vs "moduleyard.reader" 1757)) (by kernel_rfl) (by kernel_rfl) (vlen2 fun a b => by kernel_rfl)⟩
theorem pk.mReader_mark : MF c 143 5 (Str.ofString "Reader.mark") [Str.ofString "self", Str.ofString "code"] 2 [] (pk.ma 143 5) := ⟨fdef0 cK (f := 1164) (cd := 1163) (q := "Reader.mark") (m := (vs "moduleyard.reader" 1757)) (by kernel_rfl) (by kernel_rfl) (vlen2 fun a b => by kernel_rfl)⟩
theorem pk.mReader_name : MF c 143 6 (Str.ofString "Reader.name") [Str.ofString "self"] 1 [] (pk.ma 143 6) := ⟨fdef0 cK (f := 1171) (cd := 1170) (q := "Reader.name") (m := (vs "moduleyard.reader" 1757)) (by kernel_rfl) (by kernel_rfl) (vlen1 fun a => by kernel_rfl)⟩
theorem pk.gFULL : ∃ t, nsIn c.K mainGlobals (Str.ofString "FULL") = some (some (.int 4294967295 t)) := ⟨524, ns_of cK (by kernel_rfl)⟩
theorem pk.gMOSTI : ∃ t, nsIn c.K mainGlobals (Str.ofString "MOST_INTEGER") = some (some (.int 2147483647 t)) := ⟨1231, ns_of cK (by kernel_rfl)⟩
theorem pk.blen : nsIn c.K mainGlobals (Str.ofString "len") = some none := ns_of cK (by kernel_rfl)
theorem pk.bint : nsIn c.K mainGlobals (Str.ofString "int") = some none := ns_of cK (by kernel_rfl)
theorem pk.babs : nsIn c.K mainGlobals (Str.ofString "abs") = some none := ns_of cK (by kernel_rfl)
theorem pk.bstr : nsIn c.K mainGlobals (Str.ofString "str") = some none := ns_of cK (by kernel_rfl)
theorem pk.bord : nsIn c.K mainGlobals (Str.ofString "ord") = some none := ns_of cK (by kernel_rfl)
theorem pk.bmax : nsIn c.K mainGlobals (Str.ofString "max") = some none := ns_of cK (by kernel_rfl)
theorem pk.brange : nsIn c.K mainGlobals (Str.ofString "range") = some none := ns_of cK (by kernel_rfl)
theorem pk.breversed : nsIn c.K mainGlobals (Str.ofString "reversed") = some none := ns_of cK (by kernel_rfl)
local macro_rules | `(tactic| fail $s:str) => do
  match s.getString.splitOn ":" with
  | ["", g, n, a] =>
    let G := Lean.Syntax.mkApp (Lean.mkIdent g.toName) (Array.replicate n.toNat! (← `(_)))
    `(tactic| ((with_reducible refine (?_ : $G)); fail $(Lean.Syntax.mkStrLit (":" ++ a))))
  | ["", a] =>
    let as ← (a.splitOn ",").toArray.mapM fun a => do
      let l := a.splitOn " "
      let (b, t) ← l.tail.foldlM (init := (#[], #[])) fun (b, t) x => do
        if x == "!" then return (b.push (← `(‹_›)), t)
        if x == "@" then return (b.push (← `(fun _ _ => ?_)), t)
        let y := x.splitOn "="
        let i := Lean.mkIdent y.head!.toName
        let m := Lean.mkIdent (← Lean.Macro.addMacroScope y.head!.toName)
        return (b.push ⟨(← `(Lean.Parser.Term.namedArgument| ($i:ident := ?$m))).raw⟩, ← y.tail.foldlM (fun t e => do return t.push (← `(tactic| case $m:ident => fail $(Lean.Syntax.mkStrLit e)))) t)
      let e ← `(?_)
      let f := Lean.Syntax.mkApp (Lean.mkIdent l.head!.toName) (if l.contains "@" then b else b.push e)
      `(tactic| ((with_reducible refine $f); $[$t:tactic];*))
    `(tactic| first $[| $as:tactic]*)
  | ["s", a] =>
    let is := (a.splitOn " ").toArray.map fun x => Lean.mkIdent x.toName
    `(tactic| simp only [$[$is:ident],*])
  | ["r"] => `(tactic| (intros; rfl))
  | ["k"] => `(tactic| kernel_rfl)
  | ["u"] => `(tactic| with_unfolding_all rfl)
  | ["d"] => `(tactic| decreasing_trivial)
  | ["D"] => `(tactic| decide)
  | ["x"] => `(tactic| exact List.cons_ne_nil _ _)
  | ["nuL"] => `(tactic| fail "s:gPs gA getM setM getF putF putAll List.foldl ofS_inj String.reduceEq if_false if_true List.zip_cons_cons List.zip_nil_left List.zip_nil_right List.cons_append List.nil_append" <;> exact rfl)
  | ["nuH"] => `(tactic| (refine (?f : ∀ {p : Prop}, p → Hint p) ?h; (case h => fail "nuL"); (case f => exact fun {p} _ => True.intro)))
  | ["nuC"] => `(tactic| first | with_reducible rfl | with_reducible assumption | (fail ":Fast.sEq_iff.mp,sNe,sMem,sNmem"; kernel_rfl!) | (fail "s:ofS_inj String.reduceEq List.mem_cons List.not_mem_nil or_true true_or or_false false_or ne_eq not_false_eq_true not_true_eq_false"; done) | lia)
  | _ => Lean.Macro.throwUnsupported
local macro_rules | `(tactic| decreasing_trivial) => `(tactic| first | kernel_rfl! | (refine eqH ?a ?b; (case a => fail "nuH"); (case b => kernel_rfl)) | fail "nuL")
local macro_rules | `(tactic| trivial) => `(tactic| first | ((first
  | fail ":Exists:1:x_form,x_bool,x_int,x_mask,x_rd_tokenC ! !,m_char !,m_take !,m_scskip !,m_remark !,m_word !,m_numeral !,m_whole !,m_symbol !,m_step !,m_at !,m_rdskip !,m_expect !,m_rdmark !,m_name !,m_ermark !,x_rd_types !,x_rd_errors !,x_rd_scanner !,x_rd_scopes !,x_sc_place !,x_sc_source !,x_sc_errors !,x_sc_words !,x_tk r h=d,x_nd r h=d,x_ty r h=d,x_tys r h=d,x_er r ! h=d"
  | fail ":CW:6:c_char0 !,c_char1 !"
  | fail ":EW:7:ew_nonempty,ew_isempty,ew_dictget hs=r hl=r h0=x h15=D hn=r @,ew_localH v _hint=nuH h=k,ew_int,ew_str,ew_none,ew_bool,ew_bin,ew_cmp hm=u,ew_ifexp,ew_tuple,ew_andv,ew_orv,ew_bool1,ew_attr hb=r,ew_slice,ew_sub hs=r,ew_negint,ew_meth hb=r hp=k hlen=r hline=k"
  | fail ":OW:6:ow_add,ow_sub,ow_iadd,ow_isub,ow_xor,ow_and,ow_or,ow_eqint,ow_neint,ow_ltint,ow_leint,ow_gtint,ow_geint,ow_eqstr,ow_nestr,ow_isnone,ow_notnone,ow_intup' ss hl=r,ow_notintup' ss hl=r,ow_inflist' ss hl=r"
  | fail ":EWs:7:ews_pureH vs _hint=nuH h=k,ews_cons hs=r,ews_nil"
  | fail ":Beh:8:beh_next,beh_ret,beh_brk"
  | fail ":SW:7:sw_cons,sw_nil"
  | fail ":S1:7:s_if,s_return,s_return0,s_break,s_assign hl=k hs=r,s_expr hi=r hs=r,s_setattr hs=r,s_setitem hs=r,s_augnameH v₀ _hint=nuH hv=k,s_augattr,s_augitem ha=r,s_unpack hs=r hw=r"
  | fail ":TW:7:tw_nonempty,tw_cmp hm=u,tw_not,tw_and,tw_and1,tw_or,tw_or1,tw_val hp=r"
  | fail ":DW:8:dw_cons,dw_nil"
  | fail ":AW:8:aw_tup hl=r hp=k,aw_name hl=k"
  | fail ":AWs:8:aws_cons hl=k,aws_nil"
  | fail ":ret_ret,ret_next,turn_next,turn_brk,turn_ret,if_t,if_f"
  | with_reducible refine And.intro rfl ?_
  | fail ":qb_,len_and h=r,if_dt h1=nuC,if_df h1=nuC,if_nt h1=nuC,if_nf h1=nuC"); trivial) | skip)
/-- the generator's state -/
structure GAd where
  pool : Addr
  figs : Addr
  world : Addr
structure GW where
  wide : Str
  lack : MV
  room : Int
noncomputable def wfs (w : GW) : List (Str × MV) := [("wide", .str w.wide), ("lack", w.lack), ("room", .int w.room)]
noncomputable def GS (W : GAd) (base : MH) (a b : Int) (w : GW) : MH :=
  updH (updH base W.pool (.list [.ref W.figs, .int a, .int b])) W.world (.sd (wfs w))
theorem wfs_wide {w : GW} : getF "wide" (wfs w) = some (.str w.wide) := by unfold wfs; decreasing_trivial
theorem wfs_lack {w : GW} : getF "lack" (wfs w) = some w.lack := by unfold wfs; decreasing_trivial
theorem wfs_room {w : GW} : getF "room" (wfs w) = some (.int w.room) := by unfold wfs; decreasing_trivial
theorem wfs_setwide {w : GW} {x : Str} : putF "wide" (.str x) (wfs w) = wfs { w with wide := x } := by unfold wfs; decreasing_trivial
theorem wfs_setlack {w : GW} {x : MV} : putF "lack" x (wfs w) = wfs { w with lack := x } := by unfold wfs; decreasing_trivial
theorem wfs_setroom {w : GW} {x : Int} : putF "room" (.int x) (wfs w) = wfs { w with room := x } := by unfold wfs; decreasing_trivial
theorem wfs_len {w : GW} : (wfs w).length ≤ 10000 := by unfold wfs; simp
structure GOK (W : GAd) (base : MH) (fs : List Int) : Prop where
  figs : base W.figs = some (.list (fs.map .int))
  ne1 : W.pool ≠ W.world
  ne2 : W.figs ≠ W.pool
  ne3 : W.figs ≠ W.world
  len : fs.length ≤ 1000
structure POK (a b : Int) : Prop where
  a0 : 0 ≤ a
  b0 : 0 ≤ b
  b1 : b < 1009
section
variable {W : GAd} {base : MH} {fs : List Int} {a b : Int} {w : GW}
theorem gs_pool (ok : GOK W base fs) : GS W base a b w W.pool = some (.list [.ref W.figs, .int a, .int b]) := by
  unfold GS; rw [updH_ne ok.ne1]; exact updH_same ..
theorem gs_figs (ok : GOK W base fs) : GS W base a b w W.figs = some (.list (fs.map .int)) := by
  unfold GS; rw [updH_ne ok.ne3, updH_ne ok.ne2]; exact ok.figs
theorem gs_world : GS W base a b w W.world = some (.sd (wfs w)) := updH_same ..
theorem gs_setpool (ok : GOK W base fs) {a' b' : Int} : updH (GS W base a b w) W.pool (.list [.ref W.figs, .int a', .int b']) = GS W base a' b' w := by
  funext x
  unfold GS updH
  by_cases h : x = W.pool
  · subst h; simp [ok.ne1]
  · simp [h]
theorem gs_setworld {w' : GW} : updH (GS W base a b w) W.world (.sd (wfs w')) = GS W base a b w' := by
  funext x
  unfold GS updH
  by_cases h : x = W.world
  · subst h; simp
  · simp [h]
theorem gs_new {l : Addr} {o : MO} (h : GS W base a b w l = none) : updH (GS W base a b w) l o = GS W (updH base l o) a b w ∧ base l = none := by
  have h1 : l ≠ W.world := fun e => by subst e; rw [gs_world] at h; cases h
  have h2 : l ≠ W.pool := fun e => by subst e; unfold GS updH at h; simp [h1] at h
  constructor
  · funext x
    unfold GS updH
    by_cases h : x = l
    · subst h; simp [h1, h2]
    · simp [h]
  · unfold GS at h; rwa [updH_ne h1, updH_ne h2] at h
theorem GOK.new (ok : GOK W base fs) {l : Addr} {o : MO} (h : base l = none) : GOK W (updH base l o) fs :=
  ⟨updH_new h ok.figs, ok.ne1, ok.ne2, ok.ne3, ok.len⟩

theorem fmod_range {x n : Int} (h : 0 < n) : 0 ≤ x.fmod n ∧ x.fmod n < n := ⟨Int.fmod_nonneg_of_pos _ h, Int.fmod_lt_of_pos _ h⟩

theorem pick_w {k : Nat} {Q : MV → MH → Prop} (ok : GOK W base fs) (p : POK a b) {n : Int} (hn : 0 < n)
    (q : ∀ a' b' r, POK a' b' → 0 ≤ r → r < n → Q (.int r) (GS W base a' b' w)) : FW c (k + 1) (.ref (pk.fa 146)) [.ref W.pool, .int n] (GS W base a b w) Q := by
  have L : ∀ {a b : Int} {w : GW}, ListAt c (.ref W.pool) (GS W base a b w) [.ref W.figs, .int a, .int b] := fun {_ _ _} => la_ref (gs_pool ok)
  have LF : ∀ {a b : Int} {w : GW}, ListAt c (.ref W.figs) (GS W base a b w) (fs.map .int) := fun {_ _ _} => la_ref (gs_figs ok)
  have hlen := ok.len
  have P0 := p.a0
  have P1 := p.b0
  have P2 := p.b1
  refine fn_intro pk.fLpick.d rfl ?_
  refine sw_cons ?_
  trivial
  refine ⟨st_list L, ow_idx L (by decide) (by decide) rfl ?_⟩
  refine ew_callB pk.blen rfl keeps_bi (by decide) ?_
  trivial
  refine ⟨st_list L, ow_idx L (by decide) (by decide) rfl ?_⟩
  trivial
  refine cw_lenlist LF (by simp; lia) ?_
  trivial
  rw [List.length_map]
  refine if_d (fun h => ?_) (fun h => ?_)
  · have hget : (fs.map MV.int)[a.toNat]? = some (.int (fs[a.toNat]'(by lia))) := by rw [List.getElem?_map, List.getElem?_eq_getElem (by lia)]; rfl
    trivial
    refine ⟨st_list L, ow_idx L (by decide) (by decide) rfl ?_⟩
    trivial
    refine ⟨st_list L, ow_idx L (by decide) (by decide) rfl ?_⟩
    refine ⟨st_list LF, ow_idx LF P0 (by lia) hget ?_⟩
    trivial
    refine ow_idx L (by decide) (by decide) rfl ?_
    trivial
    refine uw_setlist (gs_pool ok) (by decide) (by simp) (by decide) ?_
    show Beh c k _ _ _ .next _ (updH _ _ (.list [.ref W.figs, .int (a + 1), .int b]))
    rw [gs_setpool ok]
    trivial
    refine ow_mod (by lia) ?_
    trivial
    exact q _ _ _ ⟨by lia, P1, P2⟩ (fmod_range hn).1 (fmod_range hn).2
  · refine sw_cons ?_
    refine s_if ?_
    trivial
    refine ew_callB pk.blen rfl keeps_bi (by decide) ?_
    trivial
    refine ⟨st_list L, ow_idx L (by decide) (by decide) rfl ?_⟩
    trivial
    refine cw_lenlist LF (by simp; lia) ?_
    trivial
    refine if_d (fun h => ?_) (fun h => ?_)
    · trivial
      refine ow_mod (by lia) ?_
      trivial
      exact q _ _ _ p (fmod_range hn).1 (fmod_range hn).2
    · trivial
      refine ⟨st_list L, ow_idx L (by decide) (by decide) rfl ?_⟩
      trivial
      refine ow_mul (IntMulOk.of_right (by decide)) ?_
      trivial
      refine ow_mod (by decide) ?_
      trivial
      refine uw_setlist (gs_pool ok) (by decide) (by simp) (by decide) ?_
      show Beh c k _ _ _ .next _ (updH _ _ (.list [.ref W.figs, .int a, .int ((b * 37 + 11).fmod 1009)]))
      rw [gs_setpool ok]
      trivial
      refine ⟨st_list L, ow_idx L (by decide) (by decide) rfl ?_⟩
      trivial
      refine ow_mod (by lia) ?_
      trivial
      exact q _ _ _ ⟨P0, (fmod_range (by decide)).1, (fmod_range (by decide)).2⟩ (fmod_range hn).1 (fmod_range hn).2
end
/-- what may stand ahead of a word -/
noncomputable def sepAt : Nat → Str
  | 0 => " "
  | 1 => "\n"
  | 2 => " (* - *) "
  | _ => "  "
noncomputable def lackNow (l : MV) (spot : Int) : MV := match l with
  | .int i => if i < 0 then .int spot else .int i
  | l => l
inductive LOK : MV → Prop
  | none : LOK .none
  | int (i : Int) : LOK (.int i)
theorem str_len_app (x y : Str) : (x ++ y).length = x.length + y.length := by
  show (x.cps ++ y.cps).size = _
  simp [Str.length]
section
variable {W : GAd} {base : MH} {fs : List Int} {a b : Int} {w : GW}

theorem put_w {k : Nat} {Q : MV → MH → Prop} (ok : GOK W base fs) (p : POK a b) {row : Str} (h1 : w.wide.length + row.length ≤ 1000000)
    (q : ∀ a' b' i, POK a' b' → Q (.int ((w.wide ++ sepAt i).length)) (GS W base a' b' { w with wide := w.wide ++ sepAt i ++ row })) : FW c (k + 2) (.ref (pk.fa 147)) [.ref W.pool, .ref W.world, .str row] (GS W base a b w) Q := by
  refine fn_intro pk.fLput.d rfl ?_
  refine sw_cons ?_
  trivial
  refine ow_getsd gs_world wfs_wide ?_
  trivial
  refine ew_flist ?_
  trivial
  refine ew_callG pk.fLpick.g pk.fLpick.k ?_
  trivial
  refine FW.cw (pick_w ok p (by decide) fun a' b' r p' h0 hr => ?_)
  obtain ⟨n, rfl⟩ := Int.eq_ofNat_of_zero_le h0
  have hn : n < 4 := by lia
  refine ⟨st_list la_flist, ow_idx la_flist (by lia) (by lia) (r := .str (sepAt n)) (by match n, hn with | 0, _ => rfl | 1, _ => rfl | 2, _ => rfl | 3, _ => rfl) ?_⟩
  have hsep : (sepAt n).length ≤ 9 := by match n, hn with | 0, _ => decide | 1, _ => decide | 2, _ => decide | 3, _ => decide
  refine ow_istr (by rw [sizeLine_eq]; lia) ?_
  refine uw_setsd gs_world wfs_len ?_
  rw [wfs_setwide, gs_setworld]
  have hl2 : (w.wide ++ sepAt n).length = w.wide.length + (sepAt n).length := str_len_app _ _
  trivial
  refine ew_callB pk.blen rfl keeps_bi (by decide) ?_
  trivial
  refine ⟨st_sd gs_world, ow_getsd gs_world wfs_wide ?_⟩
  trivial
  refine cw_lenstr (by show (w.wide ++ sepAt n).length < _; lia) ?_
  trivial
  refine ow_getsd gs_world wfs_wide ?_
  trivial
  refine ow_istr (by show (w.wide ++ sepAt n).length + _ ≤ _; rw [sizeLine_eq]; lia) ?_
  refine uw_setsd gs_world wfs_len ?_
  rw [wfs_setwide, gs_setworld]
  trivial
  exact q _ _ _ p'
theorem lack_w {k : Nat} {Q : MV → MH → Prop} {spot : Int} (hl : LOK w.lack)
    (q : Q .none (GS W base a b { w with lack := lackNow w.lack spot })) : FW c (k + 1) (.ref (pk.fa 148)) [.ref W.world, .int spot] (GS W base a b w) Q := by
  refine fn_intro pk.fLlack.d rfl ?_
  refine sw_cons ?_
  trivial
  refine ⟨st_sd gs_world, ow_getsd gs_world wfs_lack ?_⟩
  trivial
  obtain ⟨wide, lack, room⟩ := w
  cases hl with
  | none =>
    refine if_f ?_
    trivial
    exact q
  | int i =>
    refine if_t ?_
    trivial
    refine ⟨st_sd gs_world, ow_getsd gs_world wfs_lack ?_⟩
    trivial
    refine if_d (fun h => ?_) (fun h => ?_)
    · trivial
      refine uw_setsd gs_world wfs_len ?_
      rw [wfs_setlack, gs_setworld]
      trivial
      rw [show lackNow (.int i) spot = .int spot from if_pos h] at q
      exact q
    · trivial
      rw [show lackNow (.int i) spot = .int i from if_neg h] at q
      exact q
end
/-- the generator's stack -/
structure Wt where
  name : Str
  level : Int
  spot : Int
  form : Str
noncomputable def Wt.mv (t : Wt) : MV := .tup [.str t.name, .int t.level, .int t.spot, .str t.form]
noncomputable def node (name : Str) (spot : Int) (form : Str) (kids : List MV) : MV := .tup [.str name, .int spot, .str form, .flist kids]
noncomputable def unaryNames : List Str := ["neg", "s~", "keep"]
/-- one reduction of the stack; the lists from the top -/
noncomputable def red1 (t : Wt) (ds : List MV) : List MV :=
  match ds with
  | [] => []
  | last :: r => if t.name ∈ unaryNames then (if t.name = "keep" then last else node t.name t.spot t.form [last]) :: r else match r with
    | [] => []
    | x :: r => node t.name t.spot t.form [x, last] :: r
noncomputable def redOK (t : Wt) (ds : List MV) : Prop := ds ≠ [] ∧ (t.name ∉ unaryNames → 2 ≤ ds.length)
section
variable {σ : MH}
theorem reduce_w {k : Nat} {Q : MV → MH → Prop} {D T : Addr} {ds : List MV} {t : Wt} {ts : List Wt} (hne : D ≠ T)
    (hD : σ D = some (.list ds.reverse)) (hT : σ T = some (.list ((t :: ts).map Wt.mv).reverse)) (hl : ds.length ≤ 100) (hl2 : ts.length ≤ 100) (hr : redOK t ds)
    (q : Q .none (updH (updH σ T (.list (ts.map Wt.mv).reverse)) D (.list (red1 t ds).reverse))) : FW c (k + 1) (.ref (pk.fa 149)) [.ref D, .ref T] σ Q := by
  have e1 : (List.map Wt.mv (t :: ts)).reverse = (List.map Wt.mv ts).reverse ++ [t.mv] := by simp
  rw [e1] at hT
  obtain ⟨hd0, hd2⟩ := hr
  obtain ⟨last, ds, rfl⟩ := List.exists_cons_of_ne_nil hd0
  have e2 : (last :: ds).reverse = ds.reverse ++ [last] := by simp
  rw [e2] at hD
  have hD1 : updH σ T (.list (List.map Wt.mv ts).reverse) D = some (.list (ds.reverse ++ [last])) := by rw [updH_ne hne]; exact hD
  have hDl : ds.reverse.length ≤ 10000 := by simp at hl ⊢; lia
  have hlen : ds.length ≤ 100 := by simp at hl; lia
  refine fn_intro pk.fLreduce.d rfl ?_
  refine sw_cons ?_
  trivial
  refine ⟨_, mi_pop hT, keeps_bi, ?_⟩
  refine ews_nil (cw_pop hT (by simp; lia) ?_)
  trivial
  show AW _ _ _ _ (.tup [.str t.name, .int t.level, .int t.spot, .str t.form]) _ _ _
  trivial
  refine ⟨_, mi_pop hD1, keeps_bi, ?_⟩
  refine ews_nil (cw_pop hD1 hDl ?_)
  trivial
  refine ew_flist ?_
  trivial
  have hD2 : ∀ x, updH (updH σ T (.list (List.map Wt.mv ts).reverse)) D x D = some x := fun x => updH_same ..
  trivial
  have fin : ∀ (x : MV) (r : List MV), red1 t (last :: ds) = x :: r → Q .none (updH (updH (updH σ T (.list (List.map Wt.mv ts).reverse)) D (.list r.reverse)) D (.list (r.reverse ++ [x]))) := by
    intro x r e
    rw [e] at q
    have : updH (updH (updH σ T (.list (List.map Wt.mv ts).reverse)) D (.list r.reverse)) D (.list (r.reverse ++ [x])) = updH (updH σ T (.list (List.map Wt.mv ts).reverse)) D (.list (x :: r).reverse) := by
      funext b
      simp only [updH, List.reverse_cons]
      split <;> rfl
    rw [this]; exact q
  refine if_d (fun h => ?_) (fun h => ?_)
  · have hu : t.name ∈ unaryNames := h
    have hr1 : red1 t (last :: ds) = (if t.name = "keep" then last else node t.name t.spot t.form [last]) :: ds := by unfold red1; dsimp only; rw [if_pos hu]
    trivial
    refine ⟨_, mi_append (hD2 _), keeps_bi, ?_⟩
    trivial
    refine if_d (fun h2 => ?_) (fun h2 => ?_)
    · rw [if_pos h2] at hr1
      trivial
      refine cw_append (hD2 _) hDl ?_
      trivial
      exact fin _ _ hr1
    · rw [if_neg h2] at hr1
      trivial
      refine ew_flist ?_
      trivial
      trivial
      refine cw_append (hD2 _) hDl ?_
      trivial
      exact fin _ _ hr1
  · have hu : t.name ∉ unaryNames := h
    have h2 := hd2 hu
    obtain ⟨x, r, rfl⟩ : ∃ x r, ds = x :: r := by
      cases ds with
      | nil => simp at h2
      | cons x r => exact ⟨x, r, rfl⟩
    have hr1 : red1 t (last :: x :: r) = node t.name t.spot t.form [x, last] :: r := by unfold red1; dsimp only; rw [if_neg hu]
    have e3 : (x :: r).reverse = r.reverse ++ [x] := by simp
    have hrl : r.reverse.length ≤ 10000 := by simp at hlen ⊢; lia
    rw [e3]
    trivial
    refine ⟨_, mi_append (hD2 _), keeps_bi, ?_⟩
    trivial
    refine ew_flist ?_
    trivial
    refine ⟨_, mi_pop (hD2 _), keeps_bi, ?_⟩
    refine ews_nil (cw_pop (hD2 _) hrl ?_)
    trivial
    trivial
    refine cw_append (updH_same ..) hrl ?_
    trivial
    have e4 := fin _ _ hr1
    have e5 : ∀ (σ : MH) (o o' : MO), updH (updH σ D o) D o' = updH σ D o' := fun σ o o' => by funext b; simp only [updH]; split <;> rfl
    rw [e5, e5]
    rw [e5] at e4
    exact e4
end
/-- kinds of rows, words of the text -/
inductive Kd where
  | i | s | b
  deriving DecidableEq
noncomputable def Kd.str : Kd → Str
  | .i => "i"
  | .s => "s"
  | .b => "b"
noncomputable def Kd.form : Kd → Str
  | .i => "integer"
  | .s => "set"
  | .b => "boolean"
inductive Wd where
  | id (x : Str)
  | num (n : Nat)
  | sym (x : Str)
noncomputable def Wd.text : Wd → Str
  | .id x => x
  | .num n => Str.ofString (toString n)
  | .sym x => x
noncomputable def Wd.kind : Wd → Str
  | .id _ => "ident"
  | .num _ => "int"
  | .sym x => x
noncomputable def Wd.val : Wd → MV
  | .id x => .str x
  | .num n => .int n
  | .sym _ => .str ""
structure Tk where
  w : Wd
  at' : Nat
noncomputable def varNames : Kd → Bool → Str
  | .i, false => "i"
  | .i, true => "j"
  | .s, false => "s"
  | .s, true => "t"
  | .b, false => "b"
  | .b, true => "c"
noncomputable def symNames : List Str := ["+", "-", "*", "/", "DIV", "MOD", "OR", "&", "~", "(", ")", "=", "#", "<", "<=", ">", ">=", "IN"]
inductive WdOK : Wd → Prop
  | id (kd : Kd) (alt : Bool) : WdOK (.id (varNames kd alt))
  | num (n : Nat) : 1 ≤ n → n ≤ 200 → WdOK (.num n)
  | sym (x : Str) : x ∈ symNames → WdOK (.sym x)

/-- words, laid from a place on -/
inductive Lay : Nat → List Tk → Str → Prop
  | nil {p : Nat} : Lay p [] ⟨#[]⟩
  | cons {p i : Nat} {t : Tk} {ts : List Tk} {x : Str} : WdOK t.w → t.at' = p + (sepAt i).length → Lay (t.at' + t.w.text.length) ts x → Lay p (t :: ts) (sepAt i ++ t.w.text ++ x)
theorem str_app_assoc (x y z : Str) : x ++ y ++ z = x ++ (y ++ z) := by
  show Str.mk (x.cps ++ y.cps ++ z.cps) = Str.mk (x.cps ++ (y.cps ++ z.cps))
  rw [Array.append_assoc]
theorem str_app_nil (x : Str) : x ++ (⟨#[]⟩ : Str) = x := by
  show Str.mk (x.cps ++ #[]) = x
  simp
theorem str_nil_app (x : Str) : (⟨#[]⟩ : Str) ++ x = x := by
  show Str.mk (#[] ++ x.cps) = x
  simp
theorem Lay.append {p : Nat} {ts ts' : List Tk} {x x' : Str} (h : Lay p ts x) (h' : Lay (p + x.length) ts' x') : Lay p (ts ++ ts') (x ++ x') := by
  induction h with
  | nil => rw [str_nil_app]; exact h'
  | @cons p i t ts x hw hp _ ih =>
    rw [str_app_assoc]
    refine .cons hw hp (ih ?_)
    rw [str_len_app, str_len_app] at h'
    rw [hp]
    rwa [show p + (sepAt i).length + t.w.text.length + x.length = p + ((sepAt i).length + t.w.text.length + x.length) from by lia]
theorem Lay.one {p i : Nat} {w : Wd} (hw : WdOK w) : Lay p [⟨w, p + (sepAt i).length⟩] (sepAt i ++ w.text) := by
  have h : Lay p [⟨w, p + (sepAt i).length⟩] (sepAt i ++ w.text ++ ⟨#[]⟩) := .cons hw rfl .nil
  rwa [str_app_nil] at h
theorem sep_len (i : Nat) : (sepAt i).length ≤ 9 := by
  match i with
  | 0 => decide
  | 1 => decide
  | 2 => decide
  | n + 3 => show (Str.ofString "  ").length ≤ 9; decide
theorem wd_len {w : Wd} (h : WdOK w) : w.text.length ≤ 3 := by
  cases h with
  | id kd alt => cases kd <;> cases alt <;> decide
  | num n h1 h2 =>
    have : ∀ n : Nat, n ≤ 200 → (Wd.num n).text.length ≤ 3 := by decide +kernel
    exact this n h2
  | sym x hx =>
    have : ∀ x ∈ symNames, x.length ≤ 3 := by decide +kernel
    exact this x hx
theorem Lay.len {p : Nat} {ts : List Tk} {x : Str} (h : Lay p ts x) : x.length ≤ 12 * ts.length := by
  induction h with
  | nil => simp [Str.length]
  | @cons p i t ts x hw hp _ ih =>
    have h1 := sep_len i
    have h2 := wd_len hw
    rw [str_len_app, str_len_app, List.length_cons]
    lia

/-- what a part of the text comes to: a tree, or what stands behind what was left out -/
inductive Res where
  | ok (t : MV)
  | bad (post : List Tk)
noncomputable def Res.isOk : Res → Prop
  | .ok _ => True
  | .bad _ => False
noncomputable def Res.mp (f : MV → MV) : Res → Res
  | .ok t => .ok (f t)
  | .bad p => .bad p
noncomputable def Res.post (r : Res) (l : List Tk) : Res := match r with
  | .ok t => .ok t
  | .bad p => .bad (p ++ l)

/-- the stack -/
noncomputable def redW (lv : Int) : List Wt → List MV → List Wt × List MV
  | [], ds => ([], ds)
  | t :: ts, ds => if lv ≤ t.level then redW lv ts (red1 t ds) else (t :: ts, ds)
noncomputable def redAll : List Wt → List MV → List MV
  | [], ds => ds
  | t :: ts, ds => redAll ts (red1 t ds)
noncomputable def nb : List Wt → Nat
  | [] => 0
  | t :: ts => nb ts + (if t.name ∈ unaryNames then 0 else 1)
theorem red1_len {t : Wt} {ts : List Wt} {ds : List MV} (h : ds.length = nb (t :: ts) + 1) : redOK t ds ∧ (red1 t ds).length = nb ts + 1 := by
  unfold nb at h
  obtain ⟨last, ds, rfl⟩ := List.exists_cons_of_length_pos (l := ds) (by lia)
  by_cases hu : t.name ∈ unaryNames
  · rw [if_pos hu] at h
    exact ⟨⟨by simp, fun x => absurd hu x⟩, by unfold red1; dsimp only; rw [if_pos hu]; simpa using h⟩
  · rw [if_neg hu] at h
    obtain ⟨x, ds, rfl⟩ := List.exists_cons_of_length_pos (l := ds) (by simp at h; lia)
    exact ⟨⟨by simp, fun _ => by simp⟩, by unfold red1; dsimp only; rw [if_neg hu]; simpa using h⟩
theorem redW_len {lv : Int} : ∀ {ts : List Wt} {ds : List MV}, ds.length = nb ts + 1 → (redW lv ts ds).2.length = nb (redW lv ts ds).1 + 1 ∧ (redW lv ts ds).1.length ≤ ts.length ∧ (redW lv ts ds).2.length ≤ ds.length
  | [], ds, h => ⟨h, Nat.le_refl _, Nat.le_refl _⟩
  | t :: ts, ds, h => by
    unfold redW
    by_cases hl : lv ≤ t.level
    · rw [if_pos hl]
      have h1 := (red1_len h).2
      obtain ⟨a, b, d⟩ := redW_len (lv := lv) h1
      unfold nb at h
      exact ⟨a, Nat.le_trans b (Nat.le_succ _), by lia⟩
    · rw [if_neg hl]
      exact ⟨h, Nat.le_refl _, Nat.le_refl _⟩
theorem redAll_len : ∀ {ts : List Wt} {ds : List MV}, ds.length = nb ts + 1 → (redAll ts ds).length = 1
  | [], ds, h => h
  | t :: ts, ds, h => by unfold redAll; exact redAll_len (red1_len h).2

/-- one turn: an operator and what stands behind it -/
structure It where
  op : Str
  spot : Nat
  ts : List Tk
  r : Res
  mv : MV
noncomputable def lvOf (op : Str) : Int := if op ∈ (["+", "-", "OR"] : List Str) then 1 else 3
noncomputable def opName (kd : Kd) (op : Str) : Str := if kd = .s then ("s" : Str) ++ op else op
noncomputable def It.wt (kd : Kd) (it : It) : Wt := ⟨opName kd it.op, lvOf it.op, it.spot, kd.form⟩
noncomputable def It.toks (it : It) : List Tk := ⟨.sym it.op, it.spot⟩ :: it.ts
noncomputable def itsToks (l : List It) : List Tk := l.flatMap It.toks
noncomputable def pushIt (kd : Kd) (st : List Wt × List MV) (it : It) : List Wt × List MV :=
  ((it.wt kd) :: (redW (lvOf it.op) st.1 st.2).1, it.mv :: (redW (lvOf it.op) st.1 st.2).2)
noncomputable def signName (kd : Kd) (sg : Str) : Str := if sg = "-" then (if kd = .i then "neg" else "s~") else "keep"
noncomputable def startSt (kd : Kd) (sg : Option (Str × Nat)) (m0 : MV) : List Wt × List MV :=
  (match sg with | none => [] | some (x, p) => [⟨signName kd x, 2, p, kd.form⟩], [m0])
noncomputable def runSt (kd : Kd) (sg : Option (Str × Nat)) (m0 : MV) (its : List It) : List Wt × List MV := its.foldl (pushIt kd) (startSt kd sg m0)
noncomputable def runTree (kd : Kd) (sg : Option (Str × Nat)) (m0 : MV) (its : List It) : MV :=
  (redAll (runSt kd sg m0 its).1 (runSt kd sg m0 its).2).headD .none
noncomputable def sgToks : Option (Str × Nat) → List Tk
  | none => []
  | some (x, p) => [⟨.sym x, p⟩]

noncomputable def opsOf : Kd → List Str
  | .i => ["+", "-", "*", "DIV", "MOD"]
  | .s => ["+", "-", "*", "/"]
  | .b => ["OR", "&"]
inductive SgOK (kd : Kd) : Option (Str × Nat) → Prop
  | none : SgOK kd none
  | minus (p : Nat) : kd ≠ .b → SgOK kd (some ("-", p))
  | plus (p : Nat) : kd = .i → SgOK kd (some ("+", p))
noncomputable abbrev OP := Kd → Bool → Bool → List Tk → Res → Prop
/-- the turns of a row; the number n of the turn at which a bare number may stand -/
inductive ItsP (O : OP) (kd : Kd) : Option Nat → List It → Prop
  | nil {n : Option Nat} : ItsP O kd n []
  | cons {n : Option Nat} {it : It} {its : List It} : it.op ∈ opsOf kd → O kd (n == some 0) true it.ts it.r → (∀ t, it.r = .ok t → it.mv = t) → ItsP O kd (n.bind fun m => if m = 0 then none else some (m - 1)) its → ItsP O kd n (it :: its)
noncomputable def badPost : Res → List It → Option (List Tk)
  | .bad p, its => some (p ++ itsToks its)
  | .ok _, [] => none
  | .ok _, it :: its => badPost it.r its
noncomputable def oneBad : Res → List It → Prop
  | .bad _, its => ∀ it ∈ its, it.r.isOk
  | .ok _, [] => True
  | .ok _, it :: its => oneBad it.r its
inductive RowP (O : OP) (kd : Kd) : List Tk → Res → Prop
  | ok {sg : Option (Str × Nat)} {n : Option Nat} {ts0 : List Tk} {t0 : MV} {its : List It} : SgOK kd sg → O kd false false ts0 (.ok t0) → ItsP O kd n its → its.length ≤ 3 → badPost (.ok t0) its = none →
      RowP O kd (sgToks sg ++ (ts0 ++ itsToks its)) (.ok (runTree kd sg t0 its))
  | bad {sg : Option (Str × Nat)} {n : Option Nat} {ts0 post : List Tk} {r0 : Res} {its : List It} : SgOK kd sg → O kd false false ts0 r0 → ItsP O kd n its → its.length ≤ 3 → badPost r0 its = some post → oneBad r0 its →
      RowP O kd (sgToks sg ++ (ts0 ++ itsToks its)) (.bad post)
/-- relations -/
inductive RelW : Kd → Kd → Str → Str → Prop
  | i (op : Str) : op ∈ (["=", "#", "<", "<=", ">", ">="] : List Str) → RelW .i .i op op
  | s (op : Str) : op ∈ (["=", "#"] : List Str) → RelW .s .s op op
  | sle : RelW .s .s "<=" "s<="
  | sge : RelW .s .s ">=" "s>="
  | isin : RelW .i .s "IN" "IN"
inductive RelP (O : OP) : List Tk → Res → Prop
  | ok {k1 k2 : Kd} {op nm : Str} {p : Nat} {ts1 ts2 : List Tk} {t1 t2 : MV} : RelW k1 k2 op nm → RowP O k1 ts1 (.ok t1) → RowP O k2 ts2 (.ok t2) → RelP O (ts1 ++ (⟨.sym op, p⟩ :: ts2)) (.ok (node nm p "boolean" [t1, t2]))
  | bad1 {k1 k2 : Kd} {op nm : Str} {p : Nat} {ts1 ts2 post : List Tk} {t2 : MV} : RelW k1 k2 op nm → RowP O k1 ts1 (.bad post) → RowP O k2 ts2 (.ok t2) → RelP O (ts1 ++ (⟨.sym op, p⟩ :: ts2)) (.bad (post ++ (⟨.sym op, p⟩ :: ts2)))
  | bad2 {k1 k2 : Kd} {op nm : Str} {p : Nat} {ts1 ts2 post : List Tk} {t1 : MV} : RelW k1 k2 op nm → RowP O k1 ts1 (.ok t1) → RowP O k2 ts2 (.bad post) → RelP O (ts1 ++ (⟨.sym op, p⟩ :: ts2)) (.bad post)
/-- operands -/
inductive OpdS (R : Kd → List Tk → Res → Prop) (L : List Tk → Res → Prop) (N : List Tk → Res → Prop) : Kd → Bool → Bool → List Tk → Res → Prop
  | var {kd : Kd} {pl bh : Bool} (alt : Bool) (p : Nat) : OpdS R L N kd pl bh [⟨.id (varNames kd alt), p⟩] (.ok (.tup [.str "var", .int p, .str kd.form, .str (varNames kd alt)]))
  | num {bh : Bool} (m p : Nat) : 1 ≤ m → m ≤ 200 → OpdS R L N .i true bh [⟨.num m, p⟩] (.ok (.tup [.str "const", .int p, .str "integer", .int m]))
  | hole {kd : Kd} {pl : Bool} : OpdS R L N kd pl true [] (.bad [])
  | not {pl bh : Bool} {p : Nat} {ts : List Tk} {r : Res} : N ts r → OpdS R L N .b pl bh (⟨.sym "~", p⟩ :: ts) (r.mp fun t => node "not" p "boolean" [t])
  | par {kd : Kd} {pl bh : Bool} {p p' : Nat} {ts : List Tk} {r : Res} : R kd ts r → OpdS R L N kd pl bh (⟨.sym "(", p⟩ :: (ts ++ [⟨.sym ")", p'⟩])) (r.post [⟨.sym ")", p'⟩])
  | parR {pl bh : Bool} {p p' : Nat} {ts : List Tk} {r : Res} : L ts r → OpdS R L N .b pl bh (⟨.sym "(", p⟩ :: (ts ++ [⟨.sym ")", p'⟩])) (r.post [⟨.sym ")", p'⟩])
noncomputable def OpdP : Nat → OP
  | 0 => OpdS (fun _ _ _ => False) (fun _ _ => False) (fun _ _ => False)
  | n + 1 => OpdS (RowP (OpdP n)) (RelP (OpdP n)) (OpdP n .b false true)
noncomputable def NO : Nat → Nat
  | 0 => 1
  | n + 1 => 8 * NO n + 11
noncomputable def Res.st : Res → Option (List Tk)
  | .ok _ => none
  | .bad p => some p
noncomputable def lackSt (l : MV) (toks : List Tk) : Option (List Tk) → MV
  | none => match toks with
    | [] => l
    | t :: _ => lackNow l t.at'
  | some [] => .int (-1)
  | some (t :: _) => .int t.at'
theorem LOK.now {l : MV} (h : LOK l) (i : Int) : LOK (lackNow l i) := by
  cases h with
  | none => exact .none
  | int j => unfold lackNow; dsimp only; split <;> exact .int _
theorem LOK.st {l : MV} (h : LOK l) (toks : List Tk) (st : Option (List Tk)) : LOK (lackSt l toks st) := by
  cases st with
  | none => cases toks with
    | nil => exact h
    | cons t ts => exact h.now _
  | some p => cases p with
    | nil => exact .int _
    | cons t ts => exact .int _
theorem lackNow_twice {l : MV} (h : LOK l) (a : Nat) (i : Int) : lackNow (lackNow l a) i = lackNow l a := by
  cases h with
  | none => rfl
  | int j =>
    unfold lackNow; dsimp only
    by_cases hj : j < 0
    · rw [if_pos hj]; dsimp only; rw [if_neg (by lia)]
    · rw [if_neg hj]; dsimp only; rw [if_neg hj]
theorem lackSt_app {l : MV} (h : LOK l) {toks : List Tk} {st : Option (List Tk)} {t : Tk} {ts : List Tk} :
    lackSt l (toks ++ t :: ts) (st.map (· ++ t :: ts)) = lackNow (lackSt l toks st) t.at' := by
  cases st with
  | none => cases toks with
    | nil => rfl
    | cons u us => exact (lackNow_twice h _ _).symm
  | some p => cases p with
    | nil => rfl
    | cons u us => show MV.int u.at' = lackNow (.int u.at') t.at'; unfold lackNow; dsimp only; rw [if_neg (by lia)]
theorem lackSt_none {l : MV} (h : LOK l) {toks : List Tk} {st : Option (List Tk)} (e : lackSt l toks st = .none) : l = .none ∧ st = none := by
  cases st with
  | none =>
    refine ⟨?_, rfl⟩
    cases toks with
    | nil => exact e
    | cons t ts => cases h with
      | none => rfl
      | int j => unfold lackSt lackNow at e; dsimp only at e; split at e <;> cases e
  | some p => cases p with
    | nil => cases e
    | cons u us => cases e
theorem lackSt_bad {l l' : MV} {toks toks' : List Tk} {p : List Tk} : lackSt l toks (some p) = lackSt l' toks' (some p) := by cases p <;> rfl

theorem oneBad_bad {p : List Tk} {its : List It} : oneBad (.bad p) its = ∀ it ∈ its, it.r.isOk := by cases its <;> rfl
theorem badPost_bad {p : List Tk} {its : List It} : badPost (.bad p) its = some (p ++ itsToks its) := by cases its <;> rfl
theorem badPost_snoc : ∀ (r0 : Res) (its : List It) (it : It), badPost r0 (its ++ [it]) = match badPost r0 its with | some p => some (p ++ it.toks) | none => it.r.st
  | .bad p, its, it => by simp [badPost_bad, itsToks]
  | .ok _, [], it => by
    show badPost it.r [] = it.r.st
    cases it.r with
    | ok _ => rfl
    | bad p => simp [badPost, itsToks, Res.st]
  | .ok _, x :: its, it => badPost_snoc x.r its it
theorem oneBad_snoc : ∀ (r0 : Res) (its : List It) (it : It), oneBad r0 its → (badPost r0 its ≠ none → it.r.isOk) → oneBad r0 (its ++ [it])
  | .bad p, its, it, h, h' => by
    rw [oneBad_bad] at h ⊢
    intro x hx
    rcases List.mem_append.mp hx with hx | hx
    · exact h x hx
    · rw [List.mem_singleton.mp hx]; exact h' (by simp [badPost_bad])
  | .ok _, [], it, h, h' => by
    show oneBad it.r []
    cases it.r with
    | ok _ => exact True.intro
    | bad p => show ∀ x ∈ ([] : List It), x.r.isOk; intro x hx; cases hx
  | .ok _, x :: its, it, h, h' => oneBad_snoc x.r its it h h'
theorem its_snoc {O : OP} {kd : Kd} : ∀ {n : Option Nat} {its : List It} {it : It}, ItsP O kd n its → it.op ∈ opsOf kd → O kd (n == some its.length) true it.ts it.r → (∀ t, it.r = .ok t → it.mv = t) → ItsP O kd n (its ++ [it])
  | n, [], it, _, h1, h2, h3 => .cons h1 h2 h3 .nil
  | n, x :: its, it, .cons a b d e, h1, h2, h3 => by
    refine .cons a b d (its_snoc e h1 ?_ h3)
    have : ((n.bind fun m => if m = 0 then none else some (m - 1)) == some its.length) = (n == some (x :: its).length) := by
      cases n with
      | none => rfl
      | some m =>
        simp only [Option.bind_some, List.length_cons]
        by_cases hm : m = 0
        · subst hm; simp
        · rw [if_neg hm]
          by_cases h : m - 1 = its.length
          · rw [h, show m = its.length + 1 from by lia]; simp
          · have h' : m ≠ its.length + 1 := by lia
            rw [show (some (m - 1) == some its.length) = false from by simpa using h, show (some m == some (its.length + 1)) = false from by simpa using h']
    rw [this]; exact h2
theorem runSt_snoc {kd : Kd} {sg : Option (Str × Nat)} {m0 : MV} {its : List It} {it : It} : runSt kd sg m0 (its ++ [it]) = pushIt kd (runSt kd sg m0 its) it := by
  unfold runSt; rw [List.foldl_append]; rfl
theorem itsToks_snoc {its : List It} {it : It} : itsToks (its ++ [it]) = itsToks its ++ it.toks := by simp [itsToks]
theorem op_bin {kd : Kd} {op : Str} (h : op ∈ opsOf kd) : opName kd op ∉ unaryNames := by
  have : ∀ kd : Kd, ∀ op ∈ opsOf kd, opName kd op ∉ unaryNames := by
    intro kd; cases kd <;> decide +kernel
  exact this kd op h
theorem sign_un {kd : Kd} {sg : Str} : signName kd sg ∈ unaryNames := by
  unfold signName
  split
  · split <;> decide +kernel
  · decide +kernel
theorem push_len {kd : Kd} {st : List Wt × List MV} {it : It} (h : it.op ∈ opsOf kd) (hs : st.2.length = nb st.1 + 1) : (pushIt kd st it).2.length = nb (pushIt kd st it).1 + 1 ∧ (pushIt kd st it).1.length ≤ st.1.length + 1 ∧ (pushIt kd st it).2.length ≤ st.2.length + 1 := by
  obtain ⟨a, b, d⟩ := redW_len (lv := lvOf it.op) hs
  unfold pushIt
  refine ⟨?_, by simpa using b, by simpa using d⟩
  show _ + 1 = (nb _ + (if (it.wt kd).name ∈ unaryNames then 0 else 1)) + 1
  rw [if_neg (show (it.wt kd).name ∉ unaryNames from op_bin h)]
  lia
theorem run_len {O : OP} {kd : Kd} {sg : Option (Str × Nat)} {m0 : MV} : ∀ {its : List It} {n : Option Nat} (st : List Wt × List MV), ItsP O kd n its → st.2.length = nb st.1 + 1 →
    (its.foldl (pushIt kd) st).2.length = nb (its.foldl (pushIt kd) st).1 + 1 ∧ (its.foldl (pushIt kd) st).1.length ≤ st.1.length + its.length ∧ (its.foldl (pushIt kd) st).2.length ≤ st.2.length + its.length
  | [], _, st, _, h => ⟨h, Nat.le_refl _, Nat.le_refl _⟩
  | it :: its, _, st, .cons a _ _ e, h => by
    obtain ⟨h1, h2, h3⟩ := push_len a h
    obtain ⟨a, b, d⟩ := run_len (sg := sg) (m0 := m0) (pushIt kd st it) e h1
    exact ⟨a, by simp only [List.foldl_cons, List.length_cons]; lia, by simp only [List.foldl_cons, List.length_cons]; lia⟩
theorem start_len {kd : Kd} {sg : Option (Str × Nat)} {m0 : MV} : (startSt kd sg m0).2.length = nb (startSt kd sg m0).1 + 1 ∧ (startSt kd sg m0).1.length ≤ 1 := by
  cases sg with
  | none => exact ⟨rfl, Nat.zero_le _⟩
  | some x =>
    refine ⟨?_, Nat.le_refl _⟩
    show 1 = (0 + (if signName kd x.1 ∈ unaryNames then 0 else 1)) + 1
    rw [if_pos sign_un]
theorem runSt_len {O : OP} {kd : Kd} {sg : Option (Str × Nat)} {m0 : MV} {its : List It} {n : Option Nat} (h : ItsP O kd n its) :
    (runSt kd sg m0 its).2.length = nb (runSt kd sg m0 its).1 + 1 ∧ (runSt kd sg m0 its).1.length ≤ its.length + 1 ∧ (runSt kd sg m0 its).2.length ≤ its.length + 1 := by
  obtain ⟨h1, h2⟩ := start_len (kd := kd) (sg := sg) (m0 := m0)
  obtain ⟨a, b, d⟩ := run_len (sg := sg) (m0 := m0) (startSt kd sg m0) h h1
  refine ⟨a, by unfold runSt; lia, ?_⟩
  unfold runSt
  have : (startSt kd sg m0).2.length = 1 := by cases sg <;> rfl
  lia

/-- how many words -/
theorem its_toks {O : OP} {kd : Kd} {N : Nat} (hO : ∀ kd pl bh ts r, O kd pl bh ts r → ts.length ≤ N) : ∀ {n : Option Nat} {its : List It}, ItsP O kd n its → (itsToks its).length ≤ its.length * (N + 1)
  | _, [], _ => by simp [itsToks]
  | _, it :: its, .cons _ b _ e => by
    have h1 := hO _ _ _ _ _ b
    have h2 := its_toks hO e
    show (it.toks ++ itsToks its).length ≤ _
    rw [List.length_append, List.length_cons, Nat.add_mul]
    have : it.toks.length = it.ts.length + 1 := rfl
    lia
theorem sg_len (sg : Option (Str × Nat)) : (sgToks sg).length ≤ 1 := by cases sg <;> simp [sgToks]
theorem row_toks {O : OP} {kd : Kd} {N : Nat} (hO : ∀ kd pl bh ts r, O kd pl bh ts r → ts.length ≤ N) {ts : List Tk} {r : Res} (h : RowP O kd ts r) : ts.length ≤ 4 * N + 4 := by
  cases h with
  | @ok sg n ts0 t0 its h1 h2 h3 h4 h5 =>
    have a := sg_len sg
    have b := hO _ _ _ _ _ h2
    have d := its_toks hO h3
    have e := Nat.mul_le_mul_right (N + 1) h4
    simp only [List.length_append]
    lia
  | @bad sg n ts0 post r0 its h1 h2 h3 h4 h5 h6 =>
    have a := sg_len sg
    have b := hO _ _ _ _ _ h2
    have d := its_toks hO h3
    have e := Nat.mul_le_mul_right (N + 1) h4
    simp only [List.length_append]
    lia
theorem rel_toks {O : OP} {N : Nat} (hO : ∀ kd pl bh ts r, O kd pl bh ts r → ts.length ≤ N) {ts : List Tk} {r : Res} (h : RelP O ts r) : ts.length ≤ 8 * N + 9 := by
  cases h with
  | ok _ h1 h2 => have := row_toks hO h1; have := row_toks hO h2; simp; lia
  | bad1 _ h1 h2 => have := row_toks hO h1; have := row_toks hO h2; simp; lia
  | bad2 _ h1 h2 => have := row_toks hO h1; have := row_toks hO h2; simp; lia
theorem opd_toks : ∀ (n : Nat) (kd : Kd) (pl bh : Bool) (ts : List Tk) (r : Res), OpdP n kd pl bh ts r → ts.length ≤ NO n
  | 0, _, _, _, _, _, h => by
    cases h with
    | var => exact Nat.le_refl _
    | num => exact Nat.le_refl _
    | hole => exact Nat.zero_le _
    | not h => exact h.elim
    | par h => exact h.elim
    | parR h => exact h.elim
  | n + 1, _, _, _, _, _, h => by
    have ih := opd_toks n
    show _ ≤ 8 * NO n + 11
    cases h with
    | var => simp
    | num => simp
    | hole => exact Nat.zero_le _
    | not h => have := ih _ _ _ _ _ h; simp; lia
    | par h => have := row_toks ih h; simp; lia
    | parR h => have := rel_toks ih h; simp; lia
/-- what is whole is not empty -/
theorem opd_ne {n : Nat} {kd : Kd} {pl bh : Bool} {ts : List Tk} {r : Res} (h : OpdP n kd pl bh ts r) (hr : r.isOk) : ts ≠ [] := by
  cases n with
  | zero => cases h <;> first | exact False.elim hr | (exact fun e => by cases e)
  | succ n => cases h <;> first | exact False.elim hr | (exact fun e => by cases e)
theorem opd_first {n : Nat} {kd : Kd} {ts : List Tk} {r : Res} (h : OpdP n kd false false ts r) : ts ≠ [] := by
  cases n with
  | zero => cases h <;> (exact fun e => by cases e)
  | succ n => cases h <;> (exact fun e => by cases e)
noncomputable def Sub (σ' σ : MH) : Prop := ∀ a o, σ' a = some o → σ a = some o
theorem Sub.refl {σ : MH} : Sub σ σ := fun _ _ h => h
theorem sub_new {σ : MH} {d : Addr} {o : MO} (h : σ d = none) : Sub σ (updH σ d o) := fun a x e => updH_new h e
theorem sub_new2 {σ σ' : MH} {d : Addr} {o : MO} (hs : Sub σ σ') (h : σ d = none) : Sub σ (updH σ' d o) := fun a x e => by rw [updH_ne (ne_of_fresh h e)]; exact hs _ _ e
theorem updH_updH {σ : MH} {d : Addr} {o o' : MO} : updH (updH σ d o) d o' = updH σ d o' := by funext b; simp only [updH]; split <;> rfl
theorem updH_comm {σ : MH} {d e : Addr} {o o' : MO} (h : d ≠ e) : updH (updH σ d o) e o' = updH (updH σ e o') d o := by
  funext b; simp only [updH]
  by_cases h1 : b = e
  · subst h1; simp [Ne.symm h]
  · simp [h1]
section
variable {k : Nat} {cs : Scope} {ml : Loc} {σ σ' : MH} {Q : MV → MH → Prop} {pos : Pos} {R : Fl → Loc → MH → Prop}
theorem EW.sub {e : Expr} (hs : Sub σ' σ) (h : EW c k cs e ml σ' Q) : EW c k cs e ml σ Q := fun A cn L a cd h₀ Z m s P S => h A cn L a cd h₀ Z m s P (S.sub hs)
theorem SW.sub {b : List Stmt} (hs : Sub σ' σ) (h : SW c k cs b ml σ' R) : SW c k cs b ml σ R := fun A cn L a cd h₀ Z m s P S => h A cn L a cd h₀ Z m s P (S.sub hs)
theorem FOR.sub {t : Expr} {it : Addr} {b : List Stmt} (hs : Sub σ' σ) (h : FOR c k cs t it b ml σ' R) : FOR c k cs t it b ml σ R := fun A cn L a cd h₀ Z m s P S => h A cn L a cd h₀ Z m s P (S.sub hs)
theorem OW.sub {t : List Value → Sem Value} {as : List MV} (hs : Sub σ' σ) (h : OW c k t as σ' Q) : OW c k t as σ Q := fun A cn cs L a cd h₀ Z m ml s vs P S V => h A cn cs L a cd h₀ Z m ml s vs P (S.sub hs) V
theorem UW.sub {t : List Value → Sem Unit} {as : List MV} {R : MH → Prop} (hs : Sub σ' σ) (h : UW c k t as σ' R) : UW c k t as σ R := fun A cn cs L a cd h₀ Z m ml s vs P S V => h A cn cs L a cd h₀ Z m ml s vs P (S.sub hs) V
theorem FW.sub {f : Value} {as : List MV} (hs : Sub σ' σ) (h : FW c k f as σ' Q) : FW c k f as σ Q := fun A cn cs L a cd h₀ Z m ml s vs P S V => h A cn cs L a cd h₀ Z m ml s vs P (S.sub hs) V
/-- what a value is, the state may forget before it goes on -/
theorem OW.drop {t : List Value → Sem Value} {as : List MV} (h : OW c k t as σ fun v σ₁ => ∃ σ₂, Sub σ₂ σ₁ ∧ Q v σ₂) : OW c k t as σ Q :=
  fun A cn cs L a cd h₀ Z m ml s vs P S V => wpAny_mono (h A cn cs L a cd h₀ Z m ml s vs P S V) (fun _ _ ⟨mv, σ₁, Z', hz, V', S', σ₂, hs, q⟩ => ⟨mv, σ₂, Z', hz, V', S'.sub hs, q⟩) fun _ _ x => x
theorem FW.drop {f : Value} {as : List MV} (h : FW c k f as σ fun v σ₁ => ∃ σ₂, Sub σ₂ σ₁ ∧ Q v σ₂) : FW c k f as σ Q :=
  FW.ghost (h.mono fun v σ₁ ⟨σ₂, hs, q⟩ => Gh.sub hs (Gh.now q))

/-- a table that is written out to be looked into once -/
theorem ew_dictget {keys : List (Option Expr)} {values : List Expr} {i : Expr} {p : Pos}
    (h : ∀ d, σ d = none → DW c k cs keys values ml (updH σ d (.sd [])) fun l σ' => σ' = updH σ d (.sd []) ∧ EW c k cs i ml (updH σ d (.sd (putAll [] l))) fun iv σ₂ => ∃ x r, iv = .str x ∧ σ₂ = updH σ d (.sd (putAll [] l)) ∧ getF x (putAll [] l) = some r ∧ Q r σ)
    (hs : keys.all (·.isSome) = true := by rfl) (hl : keys.length = values.length := by rfl) (h0 : keys ≠ [] := by intro x; cases x) (h15 : keys.length ≤ 15 := by decide) (hn : noSlice i = true := by rfl) :
    EW c k cs (.Subscript (.Dict keys values p) i pos) ml σ Q := by
  refine ew_sub (ew_dict (fun d hd => ?_) hs hl h0 h15) hn
  intro A cn L a cd h₀ Z m s pos' P S
  refine wpAny_mono (h d hd A cn L a cd h₀ Z m s pos' P S) (fun vs s₁ ⟨l, σ₁, Z₁, hz, V, S₁, e, q⟩ => ?_) fun _ _ x => x
  subst e
  refine ⟨l, _, Z₁, hz, V, S₁, updH_same .., ?_⟩
  rw [updH_updH]
  refine EW.mono q fun iv σ₂ ⟨x, r, e1, e2, e3, q⟩ => ?_
  subst e1; subst e2
  refine ⟨st_sd (updH_same ..), OW.drop (ow_getsd (updH_same ..) e3 ⟨σ, sub_new hd, q⟩)⟩

/-- is a list not empty: the empty one is forgotten -/
noncomputable abbrev KNe (Q : MV → MH → Prop) : MV → MH → Prop := fun ov σ₁ => ∃ a ms, ov = .ref a ∧ σ₁ a = some (.list ms) ∧ Q (.bool (!ms.isEmpty)) σ₁
theorem ew_nonempty {l : Expr} {p : Pos} (h : EW c k cs l ml σ (KNe Q)) : EW c k cs (.Compare l [.NotEq] [.List [] p] pos) ml σ Q := by
  refine ew_cmp (EW.mono h fun ov σ₁ ⟨a, ms, e, h1, q⟩ => ?_) (by rfl)
  subst e
  refine ew_list (ews_nil ⟨Nat.zero_le _, fun e he => ?_⟩)
  exact OW.drop (ow_neempty (la_ref (updH_new he h1)) (la_ref (updH_same ..)) (fun b hb => by cases hb; exact ne_of_fresh he h1) (fun _ x => by cases x) ⟨σ₁, sub_new he, q⟩)
noncomputable abbrev KNeB (QB : Bool → MH → Prop) : MV → MH → Prop := fun ov σ₁ => ∃ a ms, ov = .ref a ∧ σ₁ a = some (.list ms) ∧ QB (!ms.isEmpty) σ₁
theorem tw_nonempty {l : Expr} {p : Pos} {QB : Bool → MH → Prop} (h : EW c k cs l ml σ (KNeB QB)) : TW c k cs (.Compare l [.NotEq] [.List [] p] pos) ml σ QB := by
  refine tw_cmp (EW.mono h fun ov σ₁ ⟨a, ms, e, h1, q⟩ => ?_) (by rfl)
  subst e
  refine ew_list (ews_nil ⟨Nat.zero_le _, fun e he => ?_⟩)
  exact OW.drop (ow_neempty (la_ref (updH_new he h1)) (la_ref (updH_same ..)) (fun b hb => by cases hb; exact ne_of_fresh he h1) (fun _ x => by cases x) ⟨σ₁, sub_new he, _, rfl, q⟩)
noncomputable abbrev KEm (Q : MV → MH → Prop) : MV → MH → Prop := fun ov σ₁ => ∃ a ms, ov = .ref a ∧ σ₁ a = some (.list ms) ∧ Q (.bool (ms.isEmpty)) σ₁
theorem ew_isempty {l : Expr} {p : Pos} (h : EW c k cs l ml σ (KEm Q)) : EW c k cs (.Compare l [.Eq] [.List [] p] pos) ml σ Q := by
  refine ew_cmp (EW.mono h fun ov σ₁ ⟨a, ms, e, h1, q⟩ => ?_) (by rfl)
  subst e
  refine ew_list (ews_nil ⟨Nat.zero_le _, fun e he => ?_⟩)
  exact OW.drop (ow_eqempty (la_ref (updH_new he h1)) (la_ref (updH_same ..)) ⟨σ₁, sub_new he, q⟩)
end

section
variable {W : GAd} {base : MH} {fs : List Int} {a b : Int} {w : GW}
theorem gs_at {l : Addr} (h1 : l ≠ W.pool) (h2 : l ≠ W.world) : GS W base a b w l = base l := by unfold GS; rw [updH_ne h2, updH_ne h1]
theorem gs_upd {l : Addr} {o : MO} (h1 : l ≠ W.pool) (h2 : l ≠ W.world) : updH (GS W base a b w) l o = GS W (updH base l o) a b w := by
  funext x
  unfold GS updH
  by_cases h : x = l
  · subst h; simp [h1, h2]
  · simp [h]
theorem gs_fresh (ok : GOK W base fs) {l : Addr} (h : GS W base a b w l = none) : l ≠ W.pool ∧ l ≠ W.world ∧ l ≠ W.figs ∧ base l = none := by
  have h1 : l ≠ W.world := fun e => by subst e; rw [gs_world] at h; cases h
  have h2 : l ≠ W.pool := fun e => by subst e; rw [gs_pool ok] at h; cases h
  rw [gs_at h2 h1] at h
  exact ⟨h2, h1, (fun e => by subst e; rw [ok.figs] at h; cases h), h⟩
theorem gs_sub {base' : MH} (h : Sub base' base) : Sub (GS W base' a b w) (GS W base a b w) := by
  intro x o e
  unfold GS updH at e ⊢
  by_cases h1 : x = W.world
  · simpa [h1] using e
  · by_cases h2 : x = W.pool
    · simpa [h1, h2] using e
    · simp [h1, h2] at e ⊢; exact h _ _ e
theorem GOK.upd (ok : GOK W base fs) {l : Addr} {o : MO} (h : l ≠ W.figs) : GOK W (updH base l o) fs :=
  ⟨by rw [updH_ne (Ne.symm h)]; exact ok.figs, ok.ne1, ok.ne2, ok.ne3, ok.len⟩
end
/-- less is known of the locals -/
noncomputable def LSub (l ml : Loc) : Prop := ∀ x v, getM x l = some v → getM x ml = some v
theorem LSub.refl {l : Loc} : LSub l l := fun _ _ h => h
theorem lsub_nil {ml : Loc} : LSub [] ml := fun _ _ h => by cases h
theorem lsub_cons {x : Str} {v : MV} {l ml : Loc} (h : getM x ml = some v) (h2 : LSub l ml) : LSub ((x, v) :: l) ml := fun y w e => by
  unfold getM at e
  by_cases hy : y = x
  · subst hy; rw [if_pos rfl] at e; cases e; exact h
  · rw [if_neg hy] at e; exact h2 _ _ e
theorem LR.sub {Z : Zm} {l ml : Loc} {m : Str → Option Value} (h : LSub l ml) (L : LR Z ml m) : LR Z l m := fun x v e => L x v (h x v e)
section
variable {k : Nat} {cs : Scope} {ml l : Loc} {σ σ' : MH} {pos : Pos} {R : Fl → Loc → MH → Prop}
theorem SR.loco {h₀ : Heap} {L : Addr} {Z : Zm} {m : Str → Option Value} {s : Shared} (h : LSub l ml) (S : SR c h₀ L Z m ml σ s) : SR c h₀ L Z m l σ s := ⟨S.F, S.loc.sub h, S.led, S.gens, S.drawn, S.os⟩
theorem SW.loco {b : List Stmt} (h : LSub l ml) (q : SW c k cs b l σ R) : SW c k cs b ml σ R := fun A cn L a cd h₀ Z m s P S => q A cn L a cd h₀ Z m s P (S.loco h)
theorem FOR.loco {t : Expr} {it : Addr} {b : List Stmt} (h : LSub l ml) (q : FOR c k cs t it b l σ R) : FOR c k cs t it b ml σ R := fun A cn L a cd h₀ Z m s P S => q A cn L a cd h₀ Z m s P (S.loco h)
theorem WW.loco {t : Expr} {b : List Stmt} (h : LSub l ml) (q : WW c k cs t b l σ R) : WW c k cs t b ml σ R := fun A cn L a cd h₀ Z m s P S => q A cn L a cd h₀ Z m s P (S.loco h)
theorem WW.sub {t : Expr} {b : List Stmt} (hs : Sub σ' σ) (h : WW c k cs t b ml σ' R) : WW c k cs t b ml σ R := fun A cn L a cd h₀ Z m s P S => h A cn L a cd h₀ Z m s P (S.sub hs)
end
/-- parts of statements -/
noncomputable def whT : Stmt → Expr
  | .While t _ _ _ => t
  | _ => .Constant .none 0 ⟨0, 0, 0, 0⟩
noncomputable def whB : Stmt → List Stmt
  | .While _ b _ _ => b
  | _ => []
noncomputable def foB : Stmt → List Stmt
  | .For _ _ b _ _ => b
  | _ => []
noncomputable def stA (b : List Stmt) (i : Nat) : Stmt := (b.drop i).headD (.Pass ⟨0, 0, 0, 0⟩)
section
noncomputable def OpdW (n k : Nat) : Prop := ∀ {W : GAd} {base : MH} {fs : List Int} {a b : Int} {w : GW} (_ : GOK W base fs) (_ : POK a b) (_ : LOK w.lack) (_ : w.wide.length + 12 * NO n ≤ 1000000) (kd : Kd) (pl bh : Bool) {Q : MV → MH → Prop}
  (_ : ∀ a' b' w' mv ts r x, POK a' b' → OpdP n kd pl bh ts r → Lay w.wide.length ts x → w'.wide = w.wide ++ x → (r.isOk ∨ w.lack = .none) → w'.lack = lackSt w.lack ts r.st → (∀ t, r = .ok t → mv = t) → Q mv (GS W base a' b' w')),
  FW c k (.ref (pk.fa 152)) [.ref W.pool, .ref W.world, .str kd.str, .int (2 - n), .bool pl, .bool bh] (GS W base a b w) Q
noncomputable def RowW (n k : Nat) : Prop := ∀ {W : GAd} {base : MH} {fs : List Int} {a b : Int} {w : GW} (_ : GOK W base fs) (_ : POK a b) (_ : LOK w.lack) (_ : w.wide.length + 12 * (4 * NO n + 4) ≤ 1000000) (kd : Kd) {Q : MV → MH → Prop}
  (_ : ∀ a' b' w' mv ts r x, POK a' b' → RowP (OpdP n) kd ts r → Lay w.wide.length ts x → w'.wide = w.wide ++ x → (r.isOk ∨ w.lack = .none) → w'.lack = lackSt w.lack ts r.st → (∀ t, r = .ok t → mv = t) → Q mv (GS W base a' b' w')),
  FW c k (.ref (pk.fa 150)) [.ref W.pool, .ref W.world, .str kd.str, .int (2 - n)] (GS W base a b w) Q
noncomputable def RelW' (n k : Nat) : Prop := ∀ {W : GAd} {base : MH} {fs : List Int} {a b : Int} {w : GW} (_ : GOK W base fs) (_ : POK a b) (_ : LOK w.lack) (_ : w.wide.length + 12 * (8 * NO n + 9) ≤ 1000000) {Q : MV → MH → Prop}
  (_ : ∀ a' b' w' mv ts r x, POK a' b' → RelP (OpdP n) ts r → Lay w.wide.length ts x → w'.wide = w.wide ++ x → (r.isOk ∨ w.lack = .none) → w'.lack = lackSt w.lack ts r.st → (∀ t, r = .ok t → mv = t) → Q mv (GS W base a' b' w')),
  FW c k (.ref (pk.fa 151)) [.ref W.pool, .ref W.world, .int (2 - n)] (GS W base a b w) Q

theorem room_w {W : GAd} {base : MH} {a b : Int} {w : GW} {x : Int} : updH (GS W base a b w) W.world (.sd (putF "room" (.int x) (wfs w))) = GS W base a b { w with room := x } := by
  rw [wfs_setroom, gs_setworld]

/-- a word is put, and what was left out is seen to -/
theorem putlack {w : GW} {i : Nat} {wd : Wd} (hw : WdOK wd) (hl : LOK w.lack) : Lay w.wide.length [⟨wd, w.wide.length + (sepAt i).length⟩] (sepAt i ++ wd.text) ∧ (w.wide ++ sepAt i).length = w.wide.length + (sepAt i).length ∧
    lackNow w.lack (w.wide ++ sepAt i).length = lackSt w.lack [⟨wd, w.wide.length + (sepAt i).length⟩] none := by
  refine ⟨Lay.one hw, str_len_app _ _, ?_⟩
  rw [str_len_app]; rfl

noncomputable def pairStr : Kd → Str
  | .i => "ij"
  | .s => "st"
  | .b => "bc"
theorem var_idx (kd : Kd) {m : Int} (h0 : 0 ≤ m) (h1 : m < 2) : ∃ d, (pairStr kd).cps[m.toNat]? = some d ∧ ∃ alt, (⟨#[d]⟩ : Str) = varNames kd alt := by
  obtain ⟨n, rfl⟩ := Int.eq_ofNat_of_zero_le h0
  have hn : n < 2 := by lia
  match n, hn with
  | 0, _ => cases kd <;> exact ⟨_, rfl, false, rfl⟩
  | 1, _ => cases kd <;> exact ⟨_, rfl, true, rfl⟩
theorem opd_hole {n : Nat} {kd : Kd} {pl : Bool} : OpdP n kd pl true [] (.bad []) := by cases n <;> exact .hole
theorem opd_var {n : Nat} {kd : Kd} {pl bh : Bool} (alt : Bool) (p : Nat) : OpdP n kd pl bh [⟨.id (varNames kd alt), p⟩] (.ok (.tup [.str "var", .int p, .str kd.form, .str (varNames kd alt)])) := by cases n <;> exact .var alt p
theorem opd_num {n : Nat} {bh : Bool} (m p : Nat) (h1 : 1 ≤ m) (h2 : m ≤ 200) : OpdP n .i true bh [⟨.num m, p⟩] (.ok (.tup [.str "const", .int p, .str "integer", .int m])) := by cases n <;> exact .num m p h1 h2
theorem NO_pos (n : Nat) : 1 ≤ NO n := by cases n <;> simp [NO]

noncomputable abbrev opdML (W : GAd) (x : Str) (n : Nat) (pl bh : Bool) : Loc := [("pool" : Str), "world", "kind", "deep", "plain", "behind"].zip ([.ref W.pool, .ref W.world, .str x, .int (2 - n), .bool pl, .bool bh] ++ [])
noncomputable abbrev OpdQ (W : GAd) (base : MH) (n : Nat) (kd : Kd) (pl bh : Bool) (w : GW) (Q : MV → MH → Prop) : Prop :=
  ∀ a' b' w' mv ts r x, POK a' b' → OpdP n kd pl bh ts r → Lay w.wide.length ts x → w'.wide = w.wide ++ x → (r.isOk ∨ w.lack = .none) → w'.lack = lackSt w.lack ts r.st → (∀ t, r = .ok t → mv = t) → Q mv (GS W base a' b' w')

theorem kd_pair (kd : Kd) : getF kd.str (putAll [] [("i", .str "ij"), ("s", .str "st"), ("b", .str "bc")]) = some (.str (pairStr kd)) := by
  cases kd <;> (unfold Kd.str; decreasing_trivial)
theorem kd_form (kd : Kd) : getF kd.str (putAll [] [("i", .str "integer"), ("s", .str "set"), ("b", .str "boolean")]) = some (.str kd.form) := by
  cases kd <;> (unfold Kd.str; decreasing_trivial)
theorem kd_get (kd : Kd) {x y z : MV} : getF kd.str (putAll [] [("i", x), ("s", y), ("b", z)]) = some (match kd with | .i => x | .s => y | .b => z) := by
  cases kd <;> (unfold Kd.str; decreasing_trivial)
theorem num_log {m : Nat} (h : m ≤ 200) : ((m : Int).natAbs.log2 < 1920) := by
  have : ∀ m : Nat, m ≤ 200 → ((m : Int).natAbs.log2 < 1920) := by decide +kernel
  exact this m h
theorem num_len {m : Nat} (h : m ≤ 200) : (Str.ofString (toString (m : Int))).length ≤ 3 := by
  have : ∀ m : Nat, m ≤ 200 → (Str.ofString (toString (m : Int))).length ≤ 3 := by decide +kernel
  exact this m h
theorem lackNow_none {l : MV} {i : Int} (h : LOK l) (e : lackNow l i = .none) : l = .none := by
  cases h with
  | none => rfl
  | int j => unfold lackNow at e; dsimp only at e; split at e <;> cases e
theorem lackSt_cons {l : MV} (h : LOK l) {t : Tk} {ts : List Tk} {st : Option (List Tk)} : lackSt l (t :: ts) st = lackSt (lackNow l t.at') ts st := by
  cases st with
  | none => cases ts with
    | nil => rfl
    | cons u us => exact (lackNow_twice h _ _).symm
  | some p => exact lackSt_bad
theorem post_st {r : Res} {l : List Tk} : (r.post l).st = r.st.map (· ++ l) := by cases r <;> rfl
theorem opdT_num {n k : Nat} {W : GAd} {base : MH} {fs : List Int} {a b : Int} {w : GW} (ok : GOK W base fs) (p : POK a b) (hl : LOK w.lack) (hw : w.wide.length + 12 * NO n ≤ 1000000) {bh : Bool} {Q : MV → MH → Prop}
    (q : OpdQ W base n .i true bh w Q) {way : Int} : SW c (k + 2) (fScope (topAt 152)) ((fBody (topAt 152)).drop 3) (setM "way" (.int way) (opdML W "i" n true bh)) (GS W base a b w) (retP Q) := by
  have hNO := NO_pos n
  unfold opdML
  refine sw_cons ?_
  trivial
  refine ew_callG pk.fLpick.g pk.fLpick.k ?_
  trivial
  refine FW.cw (pick_w ok p (by decide) fun a' b' r p' h0 hr => ?_)
  trivial
  refine ew_callG pk.fLput.g pk.fLput.k ?_
  trivial
  refine ew_callB pk.bstr rfl keeps_ty (by decide) ?_
  trivial
  obtain ⟨m, hm⟩ : ∃ m : Nat, 1 + r = (m : Int) := ⟨(1 + r).toNat, by lia⟩
  rw [hm]
  have hm1 : 1 ≤ m := by lia
  have hm2 : m ≤ 200 := by lia
  refine cw_str (num_log hm2) ?_
  trivial
  refine FW.cw (put_w ok p' (by have := num_len hm2; lia) fun a' b' i p' => ?_)
  trivial
  refine ew_callG pk.fLlack.g pk.fLlack.k ?_
  trivial
  refine FW.cw (lack_w hl ?_)
  trivial
  have e := str_len_app w.wide (sepAt i)
  rw [e]
  exact q _ _ _ _ [⟨.num m, w.wide.length + (sepAt i).length⟩] _ _ p' (opd_num m _ hm1 hm2) (Lay.one (.num m hm1 hm2)) (str_app_assoc _ _ _) (.inl .intro) rfl (fun t e => by cases e; rfl)
theorem opdT_not {m k : Nat} (hN : OpdW m (k + 2))
    {W : GAd} {base : MH} {fs : List Int} {a b : Int} {w : GW} (ok : GOK W base fs) (p : POK a b) (hl : LOK w.lack) (hw : w.wide.length + 12 * NO (m + 1) ≤ 1000000) {pl bh : Bool} {Q : MV → MH → Prop}
    (q : OpdQ W base (m + 1) .b pl bh w Q) {way : Int} (w4 : way = 4) : 
    SW c (k + 2) (fScope (topAt 152)) ((fBody (topAt 152)).drop 5) (setM "way" (.int way) (opdML W "b" (m + 1) pl bh)) (GS W base a b w) (retP Q) := by
  have hNO := NO_pos m
  have hNO1 : NO (m + 1) = 8 * NO m + 11 := rfl
  unfold opdML at *
  refine sw_cons ?_
  trivial
  refine ew_callG pk.fLput.g pk.fLput.k ?_
  trivial
  refine FW.cw (put_w ok p (by show _ + 1 ≤ _; lia) fun a' b' i p' => ?_)
  trivial
  refine ew_callG pk.fLlack.g pk.fLlack.k ?_
  trivial
  refine FW.cw (lack_w hl ?_)
  trivial
  refine ew_flist ?_
  trivial
  refine ew_callG pk.fLoperand.g pk.fLoperand.k ?_
  trivial
  rw [show (2 - ((m + 1 : Nat) : Int) + 1) = 2 - (m : Int) from by lia]
  have e := str_len_app w.wide (sepAt i)
  rw [e]
  refine FW.cw (hN ok p' (hl.now _) (by show (w.wide ++ sepAt i ++ ("~" : Str)).length + _ ≤ _; rw [str_len_app, e]; have := sep_len i; have : ("~" : Str).length = 1 := rfl; lia) .b false true fun a'' b'' w' mv ts r x p'' h1 h2 h3 h4 h5 h6 => ?_)
  trivial
  have L1 : Lay w.wide.length [⟨.sym "~", w.wide.length + (sepAt i).length⟩] (sepAt i ++ (Wd.sym "~").text) := Lay.one (.sym "~" (by decide +kernel))
  refine q _ _ _ _ (⟨.sym "~", w.wide.length + (sepAt i).length⟩ :: ts) _ (sepAt i ++ (Wd.sym "~").text ++ x) p'' (.not h1) (Lay.append L1 (by rw [← str_len_app, ← str_app_assoc]; exact h2)) (by rw [h3]; show w.wide ++ _ ++ _ ++ _ = _; rw [str_app_assoc, str_app_assoc, str_app_assoc]; rfl) ?_ ?_ ?_
  · rcases h4 with h4 | h4
    · cases r with
      | ok t => exact .inl .intro
      | bad _ => exact h4.elim
    · exact .inr (lackNow_none hl h4)
  · rw [h5]
    show lackSt (lackNow w.lack _) ts r.st = _
    rw [show (r.mp fun t => node "not" (w.wide.length + (sepAt i).length : Nat) "boolean" [t]).st = r.st from by cases r <;> rfl]
    exact (lackSt_cons (t := ⟨.sym "~", w.wide.length + (sepAt i).length⟩) hl).symm
  · intro t et
    cases r with
    | ok t' => rw [h6 t' rfl]; cases et; rfl
    | bad _ => cases et
theorem opdT_par {m k : Nat} (hR : RowW m (k + 2)) (hL : RelW' m (k + 2))
    {W : GAd} {base : MH} {fs : List Int} {a b : Int} {w : GW} (ok : GOK W base fs) (p : POK a b) (hl : LOK w.lack) (hw : w.wide.length + 12 * NO (m + 1) ≤ 1000000) {kd : Kd} {pl bh : Bool} {Q : MV → MH → Prop}
    (q : OpdQ W base (m + 1) kd pl bh w Q) {way : Int} : 
    SW c (k + 2) (fScope (topAt 152)) ((fBody (topAt 152)).drop 6) (setM "way" (.int way) (opdML W kd.str (m + 1) pl bh)) (GS W base a b w) (retP Q) := by
  have hNO := NO_pos m
  have hNO1 : NO (m + 1) = 8 * NO m + 11 := rfl
  unfold opdML at *
  refine sw_cons ?_
  trivial
  refine ew_callG pk.fLlack.g pk.fLlack.k ?_
  trivial
  refine ew_callG pk.fLput.g pk.fLput.k ?_
  trivial
  refine FW.cw (put_w ok p (by show _ + 1 ≤ _; lia) fun a' b' i p' => ?_)
  trivial
  refine FW.cw (lack_w hl ?_)
  trivial
  have e := str_len_app w.wide (sepAt i)
  rw [e]
  have eN : (2 - ((m + 1 : Nat) : Int) + 1) = 2 - (m : Int) := by lia
  have L1 : Lay w.wide.length [⟨.sym "(", w.wide.length + (sepAt i).length⟩] (sepAt i ++ (Wd.sym "(").text) := Lay.one (.sym "(" (by decide +kernel))
  have p1 : 1 + w.wide.length + (sepAt i).length = (w.wide ++ sepAt i ++ ("(" : Str)).length := by rw [str_len_app, e]; have : ("(" : Str).length = 1 := rfl; lia
  have hsep := sep_len i
  have fin : ∀ {a b : Int} {w' : GW} {mv : MV} {ts : List Tk} {r : Res} {x : Str}, POK a b → (∀ p', OpdP (m + 1) kd pl bh (⟨.sym "(", w.wide.length + (sepAt i).length⟩ :: (ts ++ [⟨.sym ")", p'⟩])) (r.post [⟨.sym ")", p'⟩])) →
      Lay (w.wide ++ sepAt i ++ ("(" : Str)).length ts x → w'.wide = w.wide ++ sepAt i ++ ("(" : Str) ++ x → (r.isOk ∨ lackNow w.lack (w.wide.length + (sepAt i).length : Nat) = .none) → w'.lack = lackSt (lackNow w.lack (w.wide.length + (sepAt i).length : Nat)) ts r.st → (∀ t, r = .ok t → mv = t) →
      SW c (k + 2) (fScope (topAt 152)) ((fBody (topAt 152)).drop 8) (setM "tree" mv (setM "way" (.int way) (opdML W kd.str (m + 1) pl bh))) (GS W base a b w') (retP Q) := by
    intro a b w' mv ts r x p H hlay hwide hiok hlack hmv
    have hlk : LOK w'.lack := by rw [hlack]; exact (hl.now _).st _ _
    have hx := hlay.len
    have ht := opd_toks _ _ _ _ _ _ (H 0)
    simp only [List.length_cons, List.length_append, List.length_nil] at ht
    have hwl : w'.wide.length = 1 + w.wide.length + (sepAt i).length + x.length := by rw [hwide, str_len_app, p1]
    refine sw_cons ?_
    unfold opdML
    trivial
    refine ew_callG pk.fLlack.g pk.fLlack.k ?_
    trivial
    refine ew_callG pk.fLput.g pk.fLput.k ?_
    trivial
    refine FW.cw (put_w ok p (by show _ + 1 ≤ _; lia) fun a' b' j p' => ?_)
    trivial
    refine FW.cw (lack_w hlk ?_)
    trivial
    have e2 := str_len_app w'.wide (sepAt j)
    rw [e2]
    have L2 : Lay w'.wide.length [⟨.sym ")", w'.wide.length + (sepAt j).length⟩] (sepAt j ++ (Wd.sym ")").text) := Lay.one (.sym ")" (by decide +kernel))
    refine q _ _ _ _ (⟨.sym "(", w.wide.length + (sepAt i).length⟩ :: (ts ++ [⟨.sym ")", w'.wide.length + (sepAt j).length⟩])) _ (sepAt i ++ (Wd.sym "(").text ++ (x ++ (sepAt j ++ (Wd.sym ")").text))) p' (H _) (Lay.append L1 (Lay.append ?_ ?_)) ?_ ?_ ?_ ?_
    · rw [← str_len_app, ← str_app_assoc]; exact hlay
    · rw [← str_len_app, ← str_len_app, ← str_app_assoc]; show Lay (w.wide ++ sepAt i ++ ("(" : Str) ++ x).length _ _; rw [← hwide]; exact L2
    · show w'.wide ++ _ ++ _ = _; rw [hwide]; simp only [str_app_assoc, Wd.text]
    · rcases hiok with h4 | h4
      · cases r with
        | ok t => exact .inl .intro
        | bad _ => exact h4.elim
      · exact .inr (lackNow_none hl h4)
    · show lackNow w'.lack _ = _
      rw [hlack, post_st, lackSt_cons hl, lackSt_app (hl.now _)]
    · intro t et
      cases r with
      | ok t' => cases et; exact hmv _ rfl
      | bad _ => cases et
  refine if_d (fun hk => ?_) (fun hk => ?_)
  · have hkb : kd = .b := by cases kd <;> first | rfl | (exact absurd hk (by simp only [Kd.str, ofS_inj, String.reduceEq, not_false_eq_true]))
    subst hkb
    trivial
    refine if_d (fun h6 => ?_) (fun h6 => ?_)
    · trivial
      refine ew_callG pk.fLrelation.g pk.fLrelation.k ?_
      trivial
      rw [eN]
      refine FW.cw (hL ok p' (hl.now _) (by dsimp only; rw [← p1]; lia) fun a'' b'' w' mv ts r x p'' h1 h2 h3 h4 h5 h6 => ?_)
      exact beh_next (sw_nil (beh_next (fin p'' (fun _ => .parR h1) h2 h3 h4 h5 h6)))
    · trivial
      refine ew_callG pk.fLrow.g pk.fLrow.k ?_
      trivial
      rw [eN]
      refine FW.cw (hR ok p' (hl.now _) (by dsimp only; rw [← p1]; lia) .b fun a'' b'' w' mv ts r x p'' h1 h2 h3 h4 h5 h6 => ?_)
      exact beh_next (sw_nil (beh_next (fin p'' (fun _ => .par h1) h2 h3 h4 h5 h6)))
  · trivial
    refine ew_callG pk.fLrow.g pk.fLrow.k ?_
    trivial
    rw [eN]
    refine FW.cw (hR ok p' (hl.now _) (by dsimp only; rw [← p1]; lia) kd fun a'' b'' w' mv ts r x p'' h1 h2 h3 h4 h5 h6 => ?_)
    exact beh_next (sw_nil (beh_next (fin p'' (fun _ => .par h1) h2 h3 h4 h5 h6)))
theorem opdT_var {n k : Nat} {W : GAd} {base : MH} {fs : List Int} {a b : Int} {w : GW} (ok : GOK W base fs) (p : POK a b) (hl : LOK w.lack) (hw : w.wide.length + 12 * NO n ≤ 1000000) {kd : Kd} {pl bh : Bool} {Q : MV → MH → Prop}
    (q : OpdQ W base n kd pl bh w Q) {way : Int} (w0 : 0 ≤ way) (w7 : way < 7) (rest : ¬ way < 4 → SW c (k + 2) (fScope (topAt 152)) ((fBody (topAt 152)).drop 5) (setM "way" (.int way) (opdML W kd.str n pl bh)) (GS W base a b w) (retP Q)) : 
    SW c (k + 2) (fScope (topAt 152)) ((fBody (topAt 152)).drop 4) (setM "way" (.int way) (opdML W kd.str n pl bh)) (GS W base a b w) (retP Q) := by
  have hNO := NO_pos n
  unfold opdML at *
  refine sw_cons ?_
  trivial
  refine if_d (fun h => ?_) (fun h => ?_)
  · trivial
    refine ⟨_, _, rfl, rfl, kd_pair kd, ?_⟩
    trivial
    refine ow_mod (by decide) ?_
    have hm := fmod_range (x := way) (n := 2) (by decide)
    obtain ⟨d, hd, alt, he⟩ := var_idx kd hm.1 hm.2
    refine ⟨st_str, ow_stridx hm.1 (by lia) hd ?_⟩
    rw [he]
    trivial
    refine ew_callG pk.fLput.g pk.fLput.k ?_
    trivial
    refine FW.cw (put_w ok p (by have := wd_len (.id kd alt); have : (varNames kd alt).length ≤ 3 := this; lia) fun a' b' i p' => ?_)
    trivial
    refine ew_callG pk.fLlack.g pk.fLlack.k ?_
    trivial
    refine FW.cw (lack_w hl ?_)
    trivial
    refine ⟨_, _, rfl, rfl, kd_form kd, ?_⟩
    trivial
    have e := str_len_app w.wide (sepAt i)
    rw [e]
    exact q _ _ _ _ [⟨.id (varNames kd alt), w.wide.length + (sepAt i).length⟩] _ _ p' (opd_var alt _) (Lay.one (.id kd alt)) (str_app_assoc _ _ _) (.inl .intro) rfl (fun t e => by cases e; rfl)
  · exact sw_nil (beh_next (rest h))
theorem opd_tail {n k : Nat} (hN : ∀ m, n = m + 1 → OpdW m (k + 2) ∧ RowW m (k + 2) ∧ RelW' m (k + 2))
    {W : GAd} {base : MH} {fs : List Int} {a b : Int} {w : GW} (ok : GOK W base fs) (p : POK a b) (hl : LOK w.lack) (hw : w.wide.length + 12 * NO n ≤ 1000000) {kd : Kd} {pl bh : Bool} {Q : MV → MH → Prop}
    (q : OpdQ W base n kd pl bh w Q) {x : Str} (hx : kd.str = x) {way : Int} (w0 : 0 ≤ way) (w7 : way < 7) (w3 : n = 0 → way < 3) :
    SW c (k + 2) (fScope (topAt 152)) ((fBody (topAt 152)).drop 3) (setM "way" (.int way) (opdML W x n pl bh)) (GS W base a b w) (retP Q) := by
  subst hx
  have t5 : ¬ way < 4 → SW c (k + 2) (fScope (topAt 152)) ((fBody (topAt 152)).drop 5) (setM "way" (.int way) (opdML W kd.str n pl bh)) (GS W base a b w) (retP Q) := by
    intro h4
    obtain ⟨m, rfl⟩ : ∃ m, n = m + 1 := by
      cases n with
      | zero => have := w3 rfl; lia
      | succ m => exact ⟨m, rfl⟩
    obtain ⟨hO, hR, hL⟩ := hN m rfl
    have t6 := opdT_par (pl := pl) (bh := bh) (way := way) hR hL ok p hl hw q
    by_cases hk : kd = .b ∧ way = 4
    · obtain ⟨rfl, h⟩ := hk
      exact opdT_not hO ok p hl hw q h
    · unfold opdML at *
      refine sw_cons ?_
      trivial
      refine if_d (fun h => ?_) (fun h => ?_)
      · trivial
        refine if_d (fun h2 => ?_) (fun h2 => ?_)
        · exact absurd ⟨(by cases kd <;> first | rfl | (exact absurd h (by simp only [Kd.str, ofS_inj, String.reduceEq, not_false_eq_true]))), h2⟩ hk
        · exact sw_nil (beh_next t6)
      · exact sw_nil (beh_next t6)
  have t4 := opdT_var ok p hl hw q w0 w7 t5
  unfold opdML at *
  by_cases hk : pl = true ∧ kd = .i
  · obtain ⟨rfl, rfl⟩ := hk
    exact opdT_num ok p hl hw q
  · refine sw_cons ?_
    trivial
    cases pl with
    | false => exact if_f (if_f (sw_nil (beh_next t4)))
    | true =>
      refine if_t ?_
      trivial
      refine if_d (fun h => ?_) (fun h => ?_)
      · exact absurd ⟨rfl, (by cases kd <;> first | rfl | (exact absurd h (by simp only [Kd.str, ofS_inj, String.reduceEq, not_false_eq_true])))⟩ hk
      · exact sw_nil (beh_next t4)

theorem operand_w {n k : Nat} (hN : ∀ m, n = m + 1 → OpdW m (k + 2) ∧ RowW m (k + 2) ∧ RelW' m (k + 2)) : OpdW n (k + 3) := by
  intro W base fs a b w ok p hl hw kd pl bh Q q
  generalize hx : kd.str = x
  refine fn_intro pk.fLoperand.d rfl ?_
  refine sw_cons ?_
  trivial
  refine ow_getsd gs_world wfs_room ?_
  trivial
  refine uw_setsd gs_world wfs_len ?_
  rw [room_w]
  have rest : ∀ {a b : Int} {w' : GW}, POK a b → w'.wide = w.wide → w'.lack = w.lack → SW c (k + 2) (fScope (topAt 152)) ((fBody (topAt 152)).drop 2)
      (opdML W x n pl bh) (GS W base a b w') (retP Q) := by
    intro a b w' p e1 e2
    have q' : OpdQ W base n kd pl bh w' Q := by
      intro a' b' w'' mv ts r x h1 h2 h3 h4 h5 h6 h7
      rw [e1] at h3 h4
      rw [e2] at h5 h6
      exact q a' b' w'' mv ts r x h1 h2 h3 h4 h5 h6 h7
    have tl : ∀ {a b way : Int}, POK a b → 0 ≤ way → way < 7 → (n = 0 → way < 3) → SW c (k + 2) (fScope (topAt 152)) ((fBody (topAt 152)).drop 3) (setM "way" (.int way) (opdML W x n pl bh)) (GS W base a b w') (retP Q) :=
      fun p h1 h2 h3 => opd_tail hN ok p (by rw [e2]; exact hl) (by rw [e1]; exact hw) q' hx h1 h2 h3
    refine sw_cons ?_
    unfold opdML
    trivial
    refine ew_callG pk.fLpick.g pk.fLpick.k ?_
    trivial
    refine if_d (fun h => ?_) (fun h => ?_)
    · trivial
      refine ⟨st_sd gs_world, ow_getsd gs_world wfs_room ?_⟩
      trivial
      refine if_d (fun h2 => ?_) (fun h2 => ?_)
      · trivial
        refine FW.cw (pick_w ok p (by decide) fun a' b' r p' h0 hr => ?_)
        exact tl p' h0 hr (fun e => by lia)
      · trivial
        refine FW.cw (pick_w ok p (by decide) fun a' b' r p' h0 hr => ?_)
        exact tl p' h0 (by lia) (fun e => hr)
    · trivial
      refine FW.cw (pick_w ok p (by decide) fun a' b' r p' h0 hr => ?_)
      exact tl p' h0 (by lia) (fun e => hr)
  generalize hw' : ({ wide := w.wide, lack := w.lack, room := w.room - 1 } : GW) = w'
  have e1 : w'.wide = w.wide := by subst hw'; rfl
  have e2 : w'.lack = w.lack := by subst hw'; rfl
  refine beh_next (sw_cons (s_if ?_))
  trivial
  cases bh with
  | false => exact if_f (if_f (sw_nil (beh_next (rest p e1 e2))))
  | true =>
    refine if_t ?_
    trivial
    refine ⟨st_sd gs_world, ow_getsd gs_world wfs_lack ?_⟩
    trivial
    rcases (show w.lack = .none ∨ ∃ i, w.lack = .int i from by cases w with | mk a l r => cases hl with | none => exact .inl rfl | int i => exact .inr ⟨i, rfl⟩) with hn | ⟨i, hi⟩
    · rw [show isN w'.lack = true from by rw [e2, hn]; rfl]
      trivial
      refine ew_callG pk.fLpick.g pk.fLpick.k ?_
      trivial
      refine FW.cw (pick_w ok p (by decide) fun a' b' r p' h0 hr => ?_)
      trivial
      refine if_d (fun h2 => ?_) (fun h2 => ?_)
      · trivial
        refine uw_setsd gs_world wfs_len ?_
        rw [wfs_setlack, gs_setworld]
        trivial
        refine ew_flist ?_
        trivial
        exact q _ _ _ _ [] (.bad []) ⟨#[]⟩ p' opd_hole .nil (by rw [str_app_nil]; exact e1) (.inr hn) rfl (fun t e => by cases e)
      · exact sw_nil (beh_next (rest p' e1 e2))
    · rw [show isN w'.lack = false from by rw [e2, hi]; rfl]
      exact if_f (if_f (sw_nil (beh_next (rest p e1 e2))))
end
section
noncomputable def relOps : Nat → List Str
  | 1 => ["=", "#", "<=", ">="]
  | 3 => ["IN"]
  | _ => ["=", "#", "<", "<=", ">", ">="]
noncomputable def relK1 : Nat → Kd
  | 1 => .s
  | _ => .i
noncomputable def relK2 : Nat → Kd
  | 1 => .s
  | 3 => .s
  | _ => .i
theorem lackSt_ok {l : MV} (h : LOK l) {ts1 ts2 : List Tk} {t : Tk} {st : Option (List Tk)} : lackSt (lackNow (lackSt l ts1 st) t.at') ts2 none = lackSt l (ts1 ++ t :: ts2) (st.map (· ++ t :: ts2)) := by
  rw [← lackSt_cons (h.st _ _), lackSt_app h]; rfl
theorem relation_w {n k : Nat} (hR : RowW n (k + 2)) : RelW' n (k + 3) := by
  intro W base fs a b w ok p hl hw Q q
  have hNO := NO_pos n
  refine fn_intro pk.fLrelation.d rfl ?_
  refine sw_cons ?_
  trivial
  refine ew_callG pk.fLpick.g pk.fLpick.k ?_
  trivial
  refine FW.cw (pick_w ok p (by decide) fun a' b' r p' h0 hr => ?_)
  obtain ⟨way, rfl⟩ := Int.eq_ofNat_of_zero_le h0
  have hway : way < 4 := by lia
  have rest : SW c (k + 2) (fScope (topAt 151)) ((fBody (topAt 151)).drop 2) (setM "kind" (.str (relK1 way).str) (setM "way" (.int way) ([("pool" : Str), "world", "deep"].zip ([.ref W.pool, .ref W.world, .int (2 - n)] ++ [])))) (GS W base a' b' w) (retP Q) := by
    refine sw_cons ?_
    trivial
    refine ew_callG pk.fLrow.g pk.fLrow.k ?_
    trivial
    refine FW.cw (hR ok p' hl (by lia) _ fun a1 b1 w1 t1 ts1 r1 x1 p1 R1 L1 wd1 io1 lk1 mv1 => ?_)
    trivial
    repeat (refine ew_flist ?_; trivial)
    refine ⟨st_list la_flist, ow_idx la_flist (by lia) (by lia) (r := .flist ((relOps way).map .str)) (by match way, hway with | 0, _ => rfl | 1, _ => rfl | 2, _ => rfl | 3, _ => rfl) ?_⟩
    trivial
    refine ew_callG pk.fLpick.g pk.fLpick.k ?_
    trivial
    refine ew_callB pk.blen rfl keeps_bi (by decide) ?_
    trivial
    have hlen : 1 ≤ (relOps way).length ∧ (relOps way).length ≤ 6 := by match way, hway with | 0, _ => decide | 1, _ => decide | 2, _ => decide | 3, _ => decide
    refine cw_lenlist la_flist (by simp; lia) ?_
    trivial
    refine FW.cw (pick_w ok p1 (by simp; lia) fun a2 b2 i p2 h0 hr => ?_)
    rw [List.length_map] at hr
    have hget : ((relOps way).map MV.str)[i.toNat]? = some (.str ((relOps way)[i.toNat]'(by lia))) := by rw [List.getElem?_map, List.getElem?_eq_getElem (by lia)]; rfl
    have hop : (relOps way)[i.toNat]'(by lia) ∈ relOps way := List.getElem_mem ..
    generalize (relOps way)[i.toNat]'(by lia) = op at hget hop
    refine ⟨st_list la_flist, ow_idx la_flist h0 (by lia) hget ?_⟩
    have hsym : op ∈ symNames := by
      have : ∀ way < 4, ∀ op ∈ relOps way, op ∈ symNames := by decide +kernel
      exact this way hway op hop
    have hol := wd_len (.sym op hsym)
    have ht1 := row_toks (opd_toks n) R1
    have hl1 := L1.len
    have hw1 : w1.wide.length = w.wide.length + x1.length := by rw [wd1, str_len_app]
    have lk1' : LOK w1.lack := by rw [lk1]; exact hl.st _ _
    trivial
    refine ew_callG pk.fLput.g pk.fLput.k ?_
    trivial
    refine FW.cw (put_w ok p2 (by have : op.length ≤ 3 := hol; lia) fun a3 b3 j p3 => ?_)
    have hsep := sep_len j
    have e := str_len_app w1.wide (sepAt j)
    trivial
    refine ew_callG pk.fLlack.g pk.fLlack.k ?_
    trivial
    refine FW.cw (lack_w lk1' ?_)
    rw [e]
    trivial
    refine ew_callG pk.fLrow.g pk.fLrow.k ?_
    trivial
    have hlk : LOK (lackNow w1.lack (w1.wide.length + (sepAt j).length : Nat)) := lk1'.now _
    have e2 : (w1.wide ++ sepAt j ++ op).length = w1.wide.length + (sepAt j).length + op.length := by rw [str_len_app, e]
    have hT : ∀ kd2 : Kd, relK2 way = kd2 → ∀ x, x = kd2.str → ∀ R, (∀ a' b' w' t2 ts2 r2 x2, POK a' b' → RowP (OpdP n) (relK2 way) ts2 r2 → Lay (w1.wide ++ sepAt j ++ op).length ts2 x2 → w'.wide = w1.wide ++ sepAt j ++ op ++ x2 → (r2.isOk ∨ lackNow w1.lack (w1.wide.length + (sepAt j).length : Nat) = .none) → w'.lack = lackSt (lackNow w1.lack (w1.wide.length + (sepAt j).length : Nat)) ts2 r2.st → (∀ t, r2 = .ok t → t2 = t) → R t2 (GS W base a' b' w')) →
        CW c (k + 2) (.ref (pk.fa 150)) [.ref W.pool, .ref W.world, .str x, .int (2 - n)] (GS W base a3 b3 { wide := w1.wide ++ sepAt j ++ op, lack := lackNow w1.lack (w1.wide.length + (sepAt j).length : Nat), room := w1.room }) R := by
      intro kd2 hkd x hx R h
      subst hx hkd
      have : op.length ≤ 3 := hol
      exact FW.cw (hR ok p3 hlk (by show (w1.wide ++ sepAt j ++ op).length + _ ≤ _; rw [e2]; lia) _ h)
    have hR2 : ∀ nm, RelW (relK1 way) (relK2 way) op nm → ∀ {a' b' w' t2 ts2 r2 x2}, POK a' b' → RowP (OpdP n) (relK2 way) ts2 r2 → Lay (w1.wide ++ sepAt j ++ op).length ts2 x2 → w'.wide = w1.wide ++ sepAt j ++ op ++ x2 → (r2.isOk ∨ lackNow w1.lack (w1.wide.length + (sepAt j).length : Nat) = .none) → w'.lack = lackSt (lackNow w1.lack (w1.wide.length + (sepAt j).length : Nat)) ts2 r2.st → (∀ t, r2 = .ok t → t2 = t) →
        Q (.tup [.str nm, .int (w1.wide.length + (sepAt j).length : Nat), .str "boolean", .flist [t1, t2]]) (GS W base a' b' w') := by
      intro nm hrw a' b' w' t2 ts2 r2 x2 p5 R2 L2 wd2 io2 lk2 mv2
      have LL : Lay w.wide.length (ts1 ++ (⟨.sym op, w1.wide.length + (sepAt j).length⟩ :: ts2)) (x1 ++ (sepAt j ++ (Wd.sym op).text ++ x2)) := by
        refine Lay.append L1 ?_
        refine Lay.append (ts := [⟨.sym op, w1.wide.length + (sepAt j).length⟩]) (by rw [← hw1]; exact Lay.one (.sym op hsym)) ?_
        rw [← str_len_app, ← str_len_app, ← str_app_assoc, ← wd1]; exact L2
      have ew : w'.wide = w.wide ++ (x1 ++ (sepAt j ++ (Wd.sym op).text ++ x2)) := by rw [wd2, wd1]; simp only [str_app_assoc, Wd.text]
      have n1 : lackNow w1.lack (w1.wide.length + (sepAt j).length : Nat) = .none → w.lack = .none ∧ r1.st = none := fun e => by
        have := lackNow_none lk1' e
        rw [lk1] at this
        exact lackSt_none hl this
      rw [lk1] at lk2
      cases r1 with
      | ok t1' =>
        have := mv1 _ rfl; subst this
        cases r2 with
        | ok t2' =>
          have := mv2 _ rfl; subst this
          refine q _ _ _ _ _ _ _ p5 (.ok hrw R1 R2) LL ew (.inl .intro) ?_ (fun t e => by cases e; rfl)
          rw [lk2]; exact lackSt_ok hl (t := ⟨.sym op, w1.wide.length + (sepAt j).length⟩)
        | bad post =>
          refine q _ _ _ _ _ _ _ p5 (.bad2 hrw R1 R2) LL ew (.inr (n1 (io2.resolve_left id)).1) ?_ (fun t e => by cases e)
          rw [lk2]; exact lackSt_bad
      | bad post =>
        cases r2 with
        | ok t2' =>
          refine q _ _ _ _ _ _ _ p5 (.bad1 hrw R1 R2) LL ew (.inr (io1.resolve_left id)) ?_ (fun t e => by cases e)
          rw [lk2]; exact lackSt_ok hl (t := ⟨.sym op, w1.wide.length + (sepAt j).length⟩)
        | bad post => cases (n1 (io2.resolve_left id)).2
    trivial
    obtain rfl | rfl | rfl | rfl : way = 0 ∨ way = 1 ∨ way = 2 ∨ way = 3 := by lia
    · refine if_df (by decide) ?_
      trivial
      refine hT _ rfl _ rfl _ (fun a' b' w' t2 ts2 r2 x2 h1 h2 h3 h4 h5 h6 h7 => ?_)
      have fin := fun nm h => hR2 nm h h1 h2 h3 h4 h5 h6 h7
      trivial
      refine ew_flist ?_
      trivial
      exact fin _ (.i op hop)
    · refine if_df (by decide) ?_
      trivial
      refine hT _ rfl _ rfl _ (fun a' b' w' t2 ts2 r2 x2 h1 h2 h3 h4 h5 h6 h7 => ?_)
      have fin := fun nm h => hR2 nm h h1 h2 h3 h4 h5 h6 h7
      trivial
      refine ew_flist ?_
      trivial
      refine if_d (fun hh => ?_) (fun hh => ?_)
      · trivial
        refine ow_addstr (by rw [sizeLine_eq]; have : op.length ≤ 3 := hol; have : ("s" : Str).length = 1 := rfl; lia) ?_
        trivial
        refine ew_flist ?_
        trivial
        rcases (show op = "<=" ∨ op = ">=" from by simpa using hh) with rfl | rfl
        · exact fin _ .sle
        · exact fin _ .sge
      · trivial
        refine ew_flist ?_
        trivial
        refine fin _ (.s op ?_)
        simp only [relOps, List.mem_cons, List.not_mem_nil, or_false] at hop hh ⊢
        rcases hop with h | h | h | h
        · exact .inl h
        · exact .inr h
        · exact absurd (.inl h) hh
        · exact absurd (.inr h) hh
    · refine if_df (by decide) ?_
      trivial
      refine hT _ rfl _ rfl _ (fun a' b' w' t2 ts2 r2 x2 h1 h2 h3 h4 h5 h6 h7 => ?_)
      have fin := fun nm h => hR2 nm h h1 h2 h3 h4 h5 h6 h7
      trivial
      refine ew_flist ?_
      trivial
      exact fin _ (.i op hop)
    · refine if_dt (by decide) ?_
      trivial
      refine hT _ rfl _ rfl _ (fun a' b' w' t2 ts2 r2 x2 h1 h2 h3 h4 h5 h6 h7 => ?_)
      have fin := fun nm h => hR2 nm h h1 h2 h3 h4 h5 h6 h7
      trivial
      refine ew_flist ?_
      trivial
      have : op = "IN" := by simpa [relOps] using hop
      subst this
      exact fin _ .isin
  refine beh_next (sw_cons ?_)
  trivial
  match way, hway with
  | 0, _ =>
    trivial
    refine ow_mod (by decide) ?_
    refine ⟨st_str, ow_stridx (by decide) (by decide) rfl ?_⟩
    exact beh_next rest
  | 1, _ =>
    trivial
    refine ow_mod (by decide) ?_
    refine ⟨st_str, ow_stridx (by decide) (by decide) rfl ?_⟩
    exact beh_next rest
  | 2, _ =>
    trivial
    refine ow_mod (by decide) ?_
    refine ⟨st_str, ow_stridx (by decide) (by decide) rfl ?_⟩
    exact beh_next rest
  | 3, _ =>
    refine if_df (by decide) (ew_str ?_)
    exact beh_next rest
end
section
noncomputable def stS (σ : MH) (T D : Addr) (st : List Wt × List MV) : MH := updH (updH σ T (.list (st.1.map Wt.mv).reverse)) D (.list st.2.reverse)
theorem sts_T {σ : MH} {T D : Addr} (h : D ≠ T) {st : List Wt × List MV} : stS σ T D st T = some (.list (st.1.map Wt.mv).reverse) := by unfold stS; rw [updH_ne (Ne.symm h)]; exact updH_same ..
theorem sts_D {σ : MH} {T D : Addr} {st : List Wt × List MV} : stS σ T D st D = some (.list st.2.reverse) := updH_same ..
theorem sts_set {σ : MH} {T D : Addr} (h : D ≠ T) {st st' : List Wt × List MV} : updH (updH (stS σ T D st) T (.list (st'.1.map Wt.mv).reverse)) D (.list st'.2.reverse) = stS σ T D st' := by
  funext b; unfold stS; simp only [updH]
  by_cases h1 : b = D
  · simp [h1]
  · by_cases h2 : b = T <;> simp [h1, h2]
theorem sts_setT {σ : MH} {T D : Addr} (h : D ≠ T) {a a' : List Wt} {d : List MV} : updH (stS σ T D (a, d)) T (.list (a'.map Wt.mv).reverse) = stS σ T D (a', d) := by
  funext b; unfold stS; simp only [updH]
  by_cases h1 : b = D
  · subst h1; simp [h]
  · by_cases h2 : b = T
    · subst h2; simp [h1]
    · simp [h1, h2]
theorem sts_setD {σ : MH} {T D : Addr} {a : List Wt} {d d' : List MV} : updH (stS σ T D (a, d)) D (.list d'.reverse) = stS σ T D (a, d') := updH_updH
noncomputable abbrev rowB : List Stmt := fBody (topAt 150)
noncomputable abbrev rowFB : List Stmt := foB (stA rowB 6)
theorem ww_red {k : Nat} {ml : Loc} {σ : MH} {T D : Addr} (hne : D ≠ T) (h1 : getM "waiting" ml = some (.ref T)) (h2 : getM "done" ml = some (.ref D)) {lv : Int} (h3 : getM "level" ml = some (.int lv)) {R : Fl → Loc → MH → Prop} :
    ∀ (ts : List Wt) (ds : List MV), ts.length ≤ 50 → ds.length ≤ 50 → ds.length = nb ts + 1 → R .next ml (stS σ T D (redW lv ts ds)) → WW c (k + 2) (fScope (topAt 150)) (whT (stA rowFB 7)) (whB (stA rowFB 7)) ml (stS σ T D (ts, ds)) R
  | [], ds, hl, hl2, hn, q => by
    refine ww_turn (tw_and ?_)
    refine tw_nonempty (ew_local h1 ⟨_, _, rfl, sts_T hne, ?_⟩)
    simp only [List.map_nil, List.reverse_nil, List.isEmpty_nil, Bool.not_true, Bool.false_eq_true, if_false]
    exact q
  | t :: ts, ds, hl, hl2, hn, q => by
    refine ww_turn (tw_and ?_)
    refine tw_nonempty (ew_local h1 ⟨_, _, rfl, sts_T hne, ?_⟩)
    have hL : ((t :: ts).map Wt.mv).reverse.getLast? = some t.mv := by simp
    have hE : (!((t :: ts).map Wt.mv).reverse.isEmpty) = true := by simp
    rw [hE]
    refine if_t ?_
    trivial
    refine ew_local h1 ?_
    trivial
    refine ⟨st_list (la_ref (sts_T hne)), ow_idxneg (la_ref (sts_T hne)) hL ?_⟩
    trivial
    refine ⟨st_tup, ow_tup (by decide) (by decide) rfl ?_⟩
    refine ew_local h3 ?_
    trivial
    have hnn := red1_len hn
    refine if_d (fun hg => ?_) (fun hg => ?_)
    · refine sw_cons ?_
      trivial
      refine ew_callG pk.fLreduce.g pk.fLreduce.k ?_
      trivial
      refine ew_local h2 ?_
      trivial
      refine ew_local h1 ?_
      trivial
      refine FW.cw (reduce_w hne sts_D (sts_T hne) (by show ds.length ≤ 100; lia) (by simp at hl; lia) hnn.1 ?_)
      have es : updH (updH (stS σ T D (t :: ts, ds)) T (.list (ts.map Wt.mv).reverse)) D (.list (red1 t ds).reverse) = stS σ T D (ts, red1 t ds) := sts_set hne (st' := (ts, red1 t ds))
      rw [es]
      have hrl : (red1 t ds).length ≤ 50 := by have := hnn.2; unfold nb at hn; lia
      have ih := ww_red (k := k) hne h1 h2 h3 (R := R) ts (red1 t ds) (by simp at hl; lia) hrl hnn.2 (by rw [show redW lv (t :: ts) ds = redW lv ts (red1 t ds) from by rw [redW, if_pos hg]] at q; exact q)
      exact beh_next (sw_nil ih)
    · rw [show redW lv (t :: ts) ds = (t :: ts, ds) from by rw [redW, if_neg hg]] at q
      exact q
theorem ww_redall {k : Nat} {ml : Loc} {σ : MH} {T D : Addr} (hne : D ≠ T) (h1 : getM "waiting" ml = some (.ref T)) (h2 : getM "done" ml = some (.ref D)) {R : Fl → Loc → MH → Prop} :
    ∀ (ts : List Wt) (ds : List MV), ts.length ≤ 50 → ds.length ≤ 50 → ds.length = nb ts + 1 → R .next ml (stS σ T D ([], redAll ts ds)) → WW c (k + 2) (fScope (topAt 150)) (whT (stA rowB 7)) (whB (stA rowB 7)) ml (stS σ T D (ts, ds)) R
  | [], ds, hl, hl2, hn, q => by
    refine ww_turn ?_
    refine tw_nonempty (ew_local h1 ⟨_, _, rfl, sts_T hne, ?_⟩)
    simp only [List.map_nil, List.reverse_nil, List.isEmpty_nil, Bool.not_true, Bool.false_eq_true, if_false]
    exact q
  | t :: ts, ds, hl, hl2, hn, q => by
    refine ww_turn ?_
    refine tw_nonempty (ew_local h1 ⟨_, _, rfl, sts_T hne, ?_⟩)
    have hE : (!((t :: ts).map Wt.mv).reverse.isEmpty) = true := by simp
    rw [hE]
    refine if_t ?_
    have hnn := red1_len hn
    refine sw_cons ?_
    trivial
    refine ew_callG pk.fLreduce.g pk.fLreduce.k ?_
    trivial
    refine ew_local h2 ?_
    trivial
    refine ew_local h1 ?_
    trivial
    refine FW.cw (reduce_w hne sts_D (sts_T hne) (by show ds.length ≤ 100; lia) (by simp at hl; lia) hnn.1 ?_)
    have es : updH (updH (stS σ T D (t :: ts, ds)) T (.list (ts.map Wt.mv).reverse)) D (.list (red1 t ds).reverse) = stS σ T D (ts, red1 t ds) := sts_set hne (st' := (ts, red1 t ds))
    rw [es]
    have hrl : (red1 t ds).length ≤ 50 := by have := hnn.2; unfold nb at hn; lia
    have ih := ww_redall (k := k) hne h1 h2 (R := R) ts (red1 t ds) (by simp at hl; lia) hrl hnn.2 q
    exact beh_next (sw_nil ih)
end
section
theorem gs_sts {W : GAd} {B : MH} {a b : Int} {w : GW} {T D : Addr} (hT1 : T ≠ W.pool) (hT2 : T ≠ W.world) (hD1 : D ≠ W.pool) (hD2 : D ≠ W.world) {st : List Wt × List MV} :
    GS W (stS B T D st) a b w = stS (GS W B a b w) T D st := by
  unfold stS; rw [gs_upd hT1 hT2, gs_upd hD1 hD2]
structure RAd (W : GAd) (T D it : Addr) : Prop where
  t1 : T ≠ W.pool
  t2 : T ≠ W.world
  t3 : T ≠ W.figs
  d1 : D ≠ W.pool
  d2 : D ≠ W.world
  d3 : D ≠ W.figs
  i1 : it ≠ W.pool
  i2 : it ≠ W.world
  i3 : it ≠ W.figs
  dt : D ≠ T
  it' : it ≠ T
  id' : it ≠ D
inductive RowM (n : Nat) (kd : Kd) (w0 w : GW) (sg : Option (Str × Nat)) (nn : Option Nat) (m0 : MV) (its : List It) : Prop
  | mk {ts0 : List Tk} {r0 : Res} {x : Str} : SgOK kd sg → OpdP n kd false false ts0 r0 → (∀ t, r0 = .ok t → m0 = t) → ItsP (OpdP n) kd nn its → oneBad r0 its →
      Lay w0.wide.length (sgToks sg ++ (ts0 ++ itsToks its)) x → w.wide = w0.wide ++ x → (badPost r0 its = none ∨ w0.lack = .none) →
      w.lack = lackSt w0.lack (sgToks sg ++ (ts0 ++ itsToks its)) (badPost r0 its) → RowM n kd w0 w sg nn m0 its
noncomputable abbrev rowML (W : GAd) (kd : Kd) (n : Nat) (T D : Addr) (cnt spare step : Int) : Loc :=
  [("pool", .ref W.pool), ("world", .ref W.world), ("kind", .str kd.str), ("deep", .int (2 - n)), ("form", .str kd.form), ("waiting", .ref T), ("done", .ref D), ("count", .int cnt), ("spare", .int spare), ("step", .int step)]
noncomputable def nnOf (spare : Nat) : Option Nat := if spare = 0 then none else some (spare - 1)
noncomputable abbrev RS (W : GAd) (base : MH) (T D it : Addr) (o : MO) (st : List Wt × List MV) (a b : Int) (w : GW) : MH := GS W (stS (updH base it o) T D st) a b w
theorem RAd.ok {W : GAd} {T D it : Addr} (h : RAd W T D it) {base : MH} {fs : List Int} (ok : GOK W base fs) (o : MO) (st : List Wt × List MV) : GOK W (stS (updH base it o) T D st) fs := by
  unfold stS
  exact ((ok.upd h.i3).upd h.t3).upd h.d3
theorem rs_it {W : GAd} {T D it : Addr} (h : RAd W T D it) {base : MH} {o : MO} {st : List Wt × List MV} {a b : Int} {w : GW} : RS W base T D it o st a b w it = some o := by
  unfold RS
  rw [gs_at h.i1 h.i2]; unfold stS; rw [updH_ne h.id', updH_ne h.it']; exact updH_same ..
theorem rs_setit {W : GAd} {T D it : Addr} (h : RAd W T D it) {base : MH} {o o' : MO} {st : List Wt × List MV} {a b : Int} {w : GW} : updH (RS W base T D it o st a b w) it o' = RS W base T D it o' st a b w := by
  unfold RS
  rw [gs_upd h.i1 h.i2]; unfold stS
  congr 1
  rw [updH_comm (Ne.symm h.id'), updH_comm (Ne.symm h.it'), updH_updH]
theorem rs_T {W : GAd} {T D it : Addr} (h : RAd W T D it) {base : MH} {o : MO} {st : List Wt × List MV} {a b : Int} {w : GW} : RS W base T D it o st a b w T = some (.list (st.1.map Wt.mv).reverse) := by
  unfold RS; rw [gs_at h.t1 h.t2]; exact sts_T h.dt
theorem rs_D {W : GAd} {T D it : Addr} (h : RAd W T D it) {base : MH} {o : MO} {st : List Wt × List MV} {a b : Int} {w : GW} : RS W base T D it o st a b w D = some (.list st.2.reverse) := by
  unfold RS; rw [gs_at h.d1 h.d2]; exact sts_D
theorem rs_setT {W : GAd} {T D it : Addr} (h : RAd W T D it) {base : MH} {o : MO} {s s' : List Wt} {d : List MV} {a b : Int} {w : GW} : updH (RS W base T D it o (s, d) a b w) T (.list (s'.map Wt.mv).reverse) = RS W base T D it o (s', d) a b w := by
  unfold RS; rw [gs_upd h.t1 h.t2, sts_setT h.dt]
theorem rs_setD {W : GAd} {T D it : Addr} (h : RAd W T D it) {base : MH} {o : MO} {s : List Wt} {d d' : List MV} {a b : Int} {w : GW} : updH (RS W base T D it o (s, d) a b w) D (.list d'.reverse) = RS W base T D it o (s, d') a b w := by
  unfold RS; rw [gs_upd h.d1 h.d2, sts_setD]
theorem rs_sts {W : GAd} {T D it : Addr} (h : RAd W T D it) {base : MH} {o : MO} {st : List Wt × List MV} {a b : Int} {w : GW} : RS W base T D it o st a b w = stS (GS W (updH base it o) a b w) T D st := gs_sts h.t1 h.t2 h.d1 h.d2
theorem opsym {kd : Kd} {op : Str} (h : op ∈ opsOf kd) : op ∈ symNames := by
  have : ∀ kd : Kd, ∀ op ∈ opsOf kd, op ∈ symNames := by intro kd; cases kd <;> decide +kernel
  exact this kd op h
theorem RowM.snoc {n : Nat} {kd : Kd} {w0 w : GW} {sg : Option (Str × Nat)} {nn : Option Nat} {m0 : MV} {its : List It} (hl0 : LOK w0.lack) (M : RowM n kd w0 w sg nn m0 its) {op : Str} (hop : op ∈ opsOf kd) {y : Nat} {w1 w' : GW}
    (e1 : w1.wide = w.wide ++ sepAt y ++ op) (e2 : w1.lack = lackNow w.lack (w.wide.length + (sepAt y).length : Nat)) {mv : MV} {ts : List Tk} {r : Res} {x : Str} (h1 : OpdP n kd (nn == some its.length) true ts r) (h2 : Lay w1.wide.length ts x)
    (h3 : w'.wide = w1.wide ++ x) (h4 : r.isOk ∨ w1.lack = .none) (h5 : w'.lack = lackSt w1.lack ts r.st) (h6 : ∀ t, r = .ok t → mv = t) : RowM n kd w0 w' sg nn m0 (its ++ [⟨op, w.wide.length + (sepAt y).length, ts, r, mv⟩]) := by
  obtain @⟨ts0, r0, x0, hsg, hO0, hm0, hits, hone, hlay, hwd, hio, hlk⟩ := M
  have hLK : LOK w.lack := by rw [hlk]; exact hl0.st _ _
  have hwl : w.wide.length = w0.wide.length + x0.length := by rw [hwd, str_len_app]
  have n1 : w1.lack = .none → w0.lack = .none ∧ badPost r0 its = none := fun e => by
    rw [e2] at e
    have := lackNow_none hLK e
    rw [hlk] at this
    exact lackSt_none hl0 this
  have et : sgToks sg ++ (ts0 ++ itsToks (its ++ [⟨op, w.wide.length + (sepAt y).length, ts, r, mv⟩])) = (sgToks sg ++ (ts0 ++ itsToks its)) ++ (⟨.sym op, w.wide.length + (sepAt y).length⟩ :: ts) := by
    rw [itsToks_snoc]; simp [It.toks]
  refine @RowM.mk _ _ _ _ _ _ _ _ ts0 r0 (x0 ++ (sepAt y ++ (Wd.sym op).text ++ x)) hsg hO0 hm0 (its_snoc hits hop h1 h6) (oneBad_snoc _ _ _ hone fun hb => ?_) ?_ ?_ ?_ ?_
  · rcases h4 with h4 | h4
    · exact h4
    · exact absurd (n1 h4).2 hb
  · rw [et]
    refine Lay.append hlay ?_
    refine Lay.append (ts := [⟨.sym op, w.wide.length + (sepAt y).length⟩]) (by rw [← hwl]; exact Lay.one (.sym op (opsym hop))) ?_
    rw [← str_len_app, ← str_len_app, ← str_app_assoc, ← hwd]
    show Lay (w.wide ++ sepAt y ++ op).length _ _
    rw [← e1]; exact h2
  · rw [h3, e1, hwd]; simp only [str_app_assoc, Wd.text]
  · rw [badPost_snoc]
    cases hb : badPost r0 its with
    | some p => exact .inr (hio.resolve_left (by rw [hb]; simp))
    | none =>
      cases r with
      | ok t => exact .inl rfl
      | bad p => exact .inr (n1 (h4.resolve_left id)).1
  · rw [et, h5, e2, hlk, badPost_snoc]
    cases hb : badPost r0 its with
    | some p =>
      have hr : r.st = none := by
        rcases h4 with h4 | h4
        · cases r with
          | ok t => rfl
          | bad p => exact h4.elim
        · rw [(n1 h4).2] at hb; cases hb
      dsimp only
      rw [hr]
      exact lackSt_ok hl0 (t := ⟨.sym op, w.wide.length + (sepAt y).length⟩) (st := some p)
    | none =>
      dsimp only
      cases hr : r.st with
      | none => exact lackSt_ok hl0 (t := ⟨.sym op, w.wide.length + (sepAt y).length⟩) (st := none)
      | some p => exact lackSt_bad
theorem nn_eq (spare j : Nat) : decide ((spare : Int) = j + 1) = (nnOf spare == some j) := by
  unfold nnOf
  by_cases h : spare = 0
  · subst h; rw [if_pos rfl, decide_eq_false (by lia)]; rfl
  · rw [if_neg h]
    by_cases h2 : spare = j + 1
    · subst h2; rw [decide_eq_true (by lia)]; simp
    · rw [decide_eq_false (by lia)]
      have : spare - 1 ≠ j := by lia
      exact (by simpa using this : (some (spare - 1) == some j) = false).symm
end
section
theorem kd_ops (kd : Kd) : getF kd.str (putAll [] [("i", .flist [.str "+", .str "-", .str "*", .str "DIV", .str "MOD"]), ("s", .flist [.str "+", .str "-", .str "*", .str "/"]), ("b", .flist [.str "OR", .str "&"])]) = some (.flist ((opsOf kd).map .str)) := by
  cases kd <;> (unfold Kd.str; decreasing_trivial)
theorem if_mono {b : Bool} {k : Nat} {cs : Scope} {e e' : Expr} {ml : Loc} {σ : MH} {Q Q' : MV → MH → Prop} (h : if b = true then EW c k cs e ml σ Q' else EW c k cs e' ml σ Q') (hq : ∀ v σ, Q' v σ → Q v σ) : if b = true then EW c k cs e ml σ Q else EW c k cs e' ml σ Q := by
  cases b with
  | true => rw [if_pos rfl] at h ⊢; exact EW.mono h hq
  | false => rw [if_neg (by decide)] at h ⊢; exact EW.mono h hq
theorem row_mid {n k : Nat} (hO : OpdW n (k + 2)) {W : GAd} {base : MH} {fs : List Int} (ok : GOK W base fs) {T D it : Addr} (ra : RAd W T D it) {kd : Kd} {w0 : GW} (hl0 : LOK w0.lack) (hw0 : w0.wide.length + 12 * (4 * NO n + 4) ≤ 1000000)
    {sg : Option (Str × Nat)} {cnt spare : Nat} {m0 : MV} (hc : cnt ≤ 3) {R : Fl → Loc → MH → Prop} {pos : Pos}
    (hR : ∀ its a b w ml o, RowM n kd w0 w sg (nnOf spare) m0 its → its.length ≤ 3 → POK a b → getM "waiting" ml = some (.ref T) → getM "done" ml = some (.ref D) → R .next ml (RS W base T D it o (runSt kd sg m0 its) a b w)) :
    ∀ (d j : Nat) (its : List It) (a b : Int) (w : GW), cnt = j + d → its.length = j → POK a b → RowM n kd w0 w sg (nnOf spare) m0 its →
      SW c (k + 2) (fScope (topAt 150)) (rowFB.drop 1) (rowML W kd n T D cnt spare j) (RS W base T D it (.riter (j + 1) (cnt - j)) (runSt kd sg m0 its) a b w) (TurnE c (k + 2) (fScope (topAt 150)) (.Name "step" pos) it rowFB R) := by
  intro d
  induction d with
  | zero =>
    intro j its a b w hcj hj p M
    refine sw_cons ?_
    trivial
    exact hR _ _ _ _ _ _ M (by lia) p rfl rfl
  | succ d ih =>
    intro j its a b w hcj hj p M
    obtain @⟨ts0, r0, x, hsg, hO0, hm0, hits, hone, hlay, hwd, hio, hlk⟩ := M
    have ht0 := opd_toks _ _ _ _ _ _ hO0
    have hti := its_toks (opd_toks n) hits
    have hsl := sg_len sg
    have hxl := hlay.len
    simp only [List.length_append] at hxl
    have hj2 : its.length ≤ 2 := by lia
    have hti2 : (itsToks its).length ≤ 2 * (NO n + 1) := Nat.le_trans hti (Nat.mul_le_mul_right _ hj2)
    have hwl : w.wide.length = w0.wide.length + x.length := by rw [hwd, str_len_app]
    have hLK : LOK w.lack := by rw [hlk]; exact hl0.st _ _
    refine sw_cons ?_
    trivial
    repeat (refine ew_flist ?_; trivial)
    refine ⟨_, _, rfl, rfl, kd_ops kd, ?_⟩
    trivial
    refine ew_callG pk.fLpick.g pk.fLpick.k ?_
    trivial
    refine ew_callB pk.blen rfl keeps_bi (by decide) ?_
    trivial
    have hlen : 1 ≤ (opsOf kd).length ∧ (opsOf kd).length ≤ 6 := by cases kd <;> decide
    refine cw_lenlist la_flist (by simp; lia) ?_
    trivial
    refine FW.cw (pick_w (ra.ok ok _ _) p (by simp; lia) fun a2 b2 i p2 h0 hr => ?_)
    rw [List.length_map] at hr
    have hget : ((opsOf kd).map MV.str)[i.toNat]? = some (.str ((opsOf kd)[i.toNat]'(by lia))) := by rw [List.getElem?_map, List.getElem?_eq_getElem (by lia)]; rfl
    have hop : (opsOf kd)[i.toNat]'(by lia) ∈ opsOf kd := List.getElem_mem ..
    generalize (opsOf kd)[i.toNat]'(by lia) = op at hget hop
    refine ⟨st_list la_flist, ow_idx la_flist h0 (by lia) hget ?_⟩
    have hsym : op ∈ symNames := by
      have : ∀ kd : Kd, ∀ op ∈ opsOf kd, op ∈ symNames := by intro kd; cases kd <;> decide +kernel
      exact this kd op hop
    have hol : op.length ≤ 3 := wd_len (.sym op hsym)
    trivial
    refine ew_callG pk.fLput.g pk.fLput.k ?_
    trivial
    refine FW.cw (put_w (ra.ok ok _ _) p2 (by lia) fun a3 b3 y p3 => ?_)
    have hsep := sep_len y
    have e := str_len_app w.wide (sepAt y)
    trivial
    refine ew_callG pk.fLlack.g pk.fLlack.k ?_
    trivial
    refine FW.cw (lack_w hLK ?_)
    rw [e]
    trivial
    refine ew_flist ?_
    trivial
    obtain ⟨w1, hw1⟩ : ∃ w1 : GW, w1 = { wide := w.wide ++ sepAt y ++ op, lack := lackNow w.lack (w.wide.length + (sepAt y).length : Nat), room := w.room } := ⟨_, rfl⟩
    have hrl := runSt_len (sg := sg) (m0 := m0) hits
    have hred := redW_len (lv := lvOf op) hrl.1
    have go : SW c (k + 2) (fScope (topAt 150)) (rowFB.drop 7) (setM "level" (.int (lvOf op)) (setM "spot" (.int (w.wide.length + (sepAt y).length : Nat)) (setM "op" (.str op) (setM "ops" (.flist ((opsOf kd).map .str)) (rowML W kd n T D cnt spare j))))) (RS W base T D it (.riter (j + 1) (cnt - j)) (runSt kd sg m0 its) a3 b3 w1) (TurnE c (k + 2) (fScope (topAt 150)) (.Name "step" pos) it rowFB R) := by
      refine sw_cons (s_while ?_)
      rw [rs_sts ra]
      refine ww_red ra.dt rfl rfl rfl (runSt kd sg m0 its).1 (runSt kd sg m0 its).2 (by lia) (by lia) hrl.1 ?_
      rw [← rs_sts ra]
      generalize hst : redW (lvOf op) (runSt kd sg m0 its).1 (runSt kd sg m0 its).2 = st2 at hred ⊢
      obtain ⟨ts2, ds2⟩ := st2
      dsimp only at hred
      refine beh_next ?_
      refine sw_cons ?_
      trivial
      refine ⟨_, mi_append (rs_T ra), keeps_bi, ?_⟩
      trivial
      refine if_mono (Q' := fun v σ => v = .str (opName kd op) ∧ σ = RS W base T D it (.riter (j + 1) (cnt - j)) (ts2, ds2) a3 b3 w1) ?_ ?_
      · refine if_d (fun h => ?_) (fun h => ?_)
        · have hk : kd = .s := by cases kd <;> first | rfl | (exact absurd h (by simp only [Kd.str, ofS_inj, String.reduceEq, not_false_eq_true]))
          subst hk
          trivial
          refine ow_addstr (by rw [sizeLine_eq]; have : ("s" : Str).length = 1 := rfl; lia) ?_
          exact ⟨rfl, rfl⟩
        · have hk : kd ≠ .s := fun e => by subst e; exact h rfl
          trivial
          exact ⟨by unfold opName; rw [if_neg hk], rfl⟩
      intro v σ ⟨ev, eσ⟩
      subst ev eσ
      trivial
      refine cw_append (rs_T ra) (by simp; lia) ?_
      have eT : (ts2.map Wt.mv).reverse ++ [.tup [.str (opName kd op), .int (lvOf op), .int (w.wide.length + (sepAt y).length : Nat), .str kd.form]] = (((⟨opName kd op, lvOf op, (w.wide.length + (sepAt y).length : Nat), kd.form⟩ : Wt) :: ts2).map Wt.mv).reverse := by simp [Wt.mv]
      dsimp only
      rw [eT, rs_setT ra]
      refine beh_next (sw_nil ?_)
      show FOR _ _ _ _ _ _ _ _ _
      refine FOR.loco (l := rowML W kd n T D cnt spare j) ?_ ?_
      · repeat (first | exact lsub_nil | refine lsub_cons (by decreasing_trivial) ?_)
      refine for_item (nx_range (rs_it ra) (by lia)) (lg_name rfl) (aw_name ?_)
      rw [rs_setit ra]
      refine sw_cons ?_
      trivial
      refine ⟨_, mi_append (rs_D ra), keeps_bi, ?_⟩
      trivial
      refine ew_callG pk.fLoperand.g pk.fLoperand.k ?_
      trivial
      have hlk1 : LOK w1.lack := by rw [hw1]; exact hLK.now _
      have hwl1 : w1.wide.length = w.wide.length + (sepAt y).length + op.length := by rw [hw1]; show (w.wide ++ sepAt y ++ op).length = _; rw [str_len_app, e]
      rw [nn_eq, show decide ((0 : Int) < j + 1) = true from decide_eq_true (by lia)]
      refine FW.cw (hO (ra.ok ok _ _) p3 hlk1 (by lia) kd _ true fun a' b' w' mv ts r x' p4 h1 h2 h3 h4 h5 h6 => ?_)
      rw [← hj] at h1
      have M2 := RowM.snoc hl0 (.mk hsg hO0 hm0 hits hone hlay hwd hio hlk) hop (by rw [hw1]) (by rw [hw1]) h1 h2 h3 h4 h5 h6
      have ih2 := ih (j + 1) _ a' b' w' (by lia) (by simp [hj]) p4 M2
      trivial
      refine cw_append (rs_D ra) (by simp; lia) ?_
      have er : MO.riter ((j : Int) + 1 + 1) (cnt - j - 1) = .riter (((j + 1 : Nat) : Int) + 1) (cnt - ((j + 1 : Nat) : Int)) := by congr 1 <;> lia
      have em : setM "step" (.int ((j : Int) + 1)) (rowML W kd n T D cnt spare j) = rowML W kd n T D cnt spare ((j + 1 : Nat) : Int) := by unfold rowML; decreasing_trivial
      have est : runSt kd sg m0 (its ++ [⟨op, w.wide.length + (sepAt y).length, ts, r, mv⟩]) = ((⟨opName kd op, lvOf op, (w.wide.length + (sepAt y).length : Nat), kd.form⟩ : Wt) :: ts2, mv :: ds2) := by
        rw [runSt_snoc]; unfold pushIt; dsimp only; rw [hst]; rfl
      rw [est, ← er, ← em] at ih2
      dsimp only
      rw [show ds2.reverse ++ [mv] = (mv :: ds2).reverse from by simp, rs_setD ra]
      exact beh_next ih2
    refine if_d (fun h => ?_) (fun h => ?_)
    · rw [show lvOf op = 1 from if_pos h] at go
      refine ew_int ?_
      subst hw1
      exact beh_next go
    · rw [show lvOf op = 3 from if_neg h] at go
      refine ew_int ?_
      subst hw1
      exact beh_next go
end
section
theorem sub_upd {σ σ' : MH} {a : Addr} {o : MO} (h : Sub σ σ') : Sub (updH σ a o) (updH σ' a o) := fun x y e => by
  unfold updH at e ⊢
  by_cases hx : x = a
  · simpa [hx] using e
  · simp only [hx, if_false] at e ⊢; exact h _ _ e
theorem sub_news {base : MH} {T D it : Addr} {o : MO} {st : List Wt × List MV} (h1 : base T = none) (h2 : base D = none) (h3 : base it = none) : Sub base (stS (updH base it o) T D st) := fun x y e => by
  unfold stS
  rw [updH_ne (ne_of_fresh h2 e), updH_ne (ne_of_fresh h1 e), updH_ne (ne_of_fresh h3 e)]; exact e
theorem rs_new {W : GAd} {T D it : Addr} (h : RAd W T D it) {base : MH} {o : MO} {st : List Wt × List MV} {a b : Int} {w : GW} : updH (GS W (stS base T D st) a b w) it o = RS W base T D it o st a b w := by
  unfold RS
  rw [gs_upd h.i1 h.i2]; unfold stS
  rw [updH_comm (Ne.symm h.id'), updH_comm (Ne.symm h.it')]
noncomputable abbrev RowQ (W : GAd) (base : MH) (n : Nat) (kd : Kd) (w : GW) (Q : MV → MH → Prop) : Prop :=
  ∀ a' b' w' mv ts r x, POK a' b' → RowP (OpdP n) kd ts r → Lay w.wide.length ts x → w'.wide = w.wide ++ x → (r.isOk ∨ w.lack = .none) → w'.lack = lackSt w.lack ts r.st → (∀ t, r = .ok t → mv = t) → Q mv (GS W base a' b' w')
theorem rowm_end {W : GAd} {base : MH} {n : Nat} {kd : Kd} {w0 w : GW} {Q : MV → MH → Prop} (q : RowQ W base n kd w0 Q) {sg : Option (Str × Nat)} {nn : Option Nat} {m0 : MV} {its : List It} (M : RowM n kd w0 w sg nn m0 its) (hl : its.length ≤ 3) {a b : Int} (p : POK a b) :
    Q (runTree kd sg m0 its) (GS W base a b w) := by
  obtain @⟨ts0, r0, x0, hsg, hO0, hm0, hits, hone, hlay, hwd, hio, hlk⟩ := M
  cases hb : badPost r0 its with
  | none =>
    rw [hb] at hlk hio
    cases r0 with
    | ok t0 =>
      have := hm0 _ rfl; subst this
      exact q _ _ _ _ _ _ _ p (.ok hsg hO0 hits hl hb) hlay hwd (.inl .intro) hlk (fun t e => by cases e; rfl)
    | bad post => rw [badPost_bad] at hb; cases hb
  | some post =>
    rw [hb] at hlk hio
    exact q _ _ _ _ _ _ _ p (.bad hsg hO0 hits hl hb hone) hlay hwd (.inr (hio.resolve_left (by simp))) hlk (fun t e => by cases e)
noncomputable abbrev row0ML (W : GAd) (kd : Kd) (n : Nat) (T D : Addr) : Loc :=
  [("pool", .ref W.pool), ("world", .ref W.world), ("kind", .str kd.str), ("deep", .int (2 - n)), ("form", .str kd.form), ("waiting", .ref T), ("done", .ref D)]
noncomputable def sgSt (kd : Kd) (sg : Option (Str × Nat)) : List Wt := (startSt kd sg .none).1

structure TDA (W : GAd) (T D : Addr) : Prop where
  t1 : T ≠ W.pool
  t2 : T ≠ W.world
  t3 : T ≠ W.figs
  d1 : D ≠ W.pool
  d2 : D ≠ W.world
  d3 : D ≠ W.figs
  dt : D ≠ T
theorem TDA.ok {W : GAd} {T D : Addr} (h : TDA W T D) {base : MH} {fs : List Int} (ok : GOK W base fs) (st : List Wt × List MV) : GOK W (stS base T D st) fs := by
  unfold stS; exact (ok.upd h.t3).upd h.d3
theorem TDA.it {W : GAd} {T D it : Addr} (h : TDA W T D) {base : MH} {fs : List Int} (ok : GOK W base fs) {st : List Wt × List MV} {a b : Int} {w : GW} (hi : GS W (stS base T D st) a b w it = none) : RAd W T D it ∧ base it = none := by
  obtain ⟨i1, i2, i3, e⟩ := gs_fresh (h.ok ok st) hi
  have i4 : it ≠ T := fun x => by subst x; rw [sts_T h.dt] at e; cases e
  have i5 : it ≠ D := fun x => by subst x; rw [sts_D] at e; cases e
  refine ⟨⟨h.t1, h.t2, h.t3, h.d1, h.d2, h.d3, i1, i2, i3, h.dt, i4, i5⟩, ?_⟩
  unfold stS at e; rwa [updH_ne i5, updH_ne i4] at e
theorem row_for {n k : Nat} (hO : OpdW n (k + 2)) {W : GAd} {base : MH} {fs : List Int} (ok : GOK W base fs) {T D : Addr} (hT : base T = none) (hD : base D = none) (td : TDA W T D) {kd : Kd} {w0 : GW} (hl0 : LOK w0.lack) (hw0 : w0.wide.length + 12 * (4 * NO n + 4) ≤ 1000000)
    {Q : MV → MH → Prop} (q : RowQ W base n kd w0 Q) {sg : Option (Str × Nat)} (hsg : SgOK kd sg) {a b : Int} (p : POK a b) {w : GW} {x : Str} (hlay : Lay w0.wide.length (sgToks sg) x) (hwd : w.wide = w0.wide ++ x) (hlk : w.lack = lackSt w0.lack (sgToks sg) none) {cnt : Nat} (hc : cnt ≤ 3) :
    SW c (k + 2) (fScope (topAt 150)) (rowB.drop 5) (setM "count" (.int cnt) (row0ML W kd n T D)) (GS W (stS base T D (sgSt kd sg, [])) a b w) (retP fun v σ => ∃ σ₂, Sub σ₂ σ ∧ Q v σ₂) := by
  have hLK : LOK w.lack := by rw [hlk]; exact hl0.st _ _
  have hsl := sg_len sg
  have hxl := hlay.len
  have hwl : w.wide.length = w0.wide.length + x.length := by rw [hwd, str_len_app]
  have ok' : GOK W (stS base T D (sgSt kd sg, [])) fs := td.ok ok _
  refine sw_cons ?_
  trivial
  refine ew_callG pk.fLpick.g pk.fLpick.k ?_
  trivial
  refine FW.cw (pick_w ok' p (by decide) fun a1 b1 r p1 h0 hr => ?_)
  obtain ⟨spare, rfl⟩ := Int.eq_ofNat_of_zero_le h0
  refine beh_next (sw_cons (s_for ?_))
  refine ew_callB pk.brange rfl keeps_ty (by decide) ?_
  trivial
  refine cw_range fun rg hrg => ?_
  refine it_range (updH_same ..) (by lia) (by lia) fun it hit => ?_
  have hri : rg ≠ it := fun e => by subst e; rw [updH_same] at hit; cases hit
  rw [updH_ne (Ne.symm hri)] at hit
  obtain ⟨ra, hbi⟩ := td.it ok hit
  refine FOR.sub (sub_upd (sub_new hrg)) ?_
  rw [rs_new ra]
  refine for_item (nx_range (rs_it ra) (by lia)) (lg_name rfl) (aw_name ?_)
  rw [rs_setit ra]
  refine SW.loco (l := rowML W kd n T D cnt spare 0) ?_ ?_
  · repeat (first | exact lsub_nil | refine lsub_cons (by decreasing_trivial) ?_)
  refine sw_cons ?_
  trivial
  refine ⟨_, mi_append (rs_D ra), keeps_bi, ?_⟩
  trivial
  refine ew_callG pk.fLoperand.g pk.fLoperand.k ?_
  trivial
  refine FW.cw (hO (ra.ok ok _ _) p1 hLK (by lia) kd false false fun a' b' w' mv ts r x' p4 h1 h2 h3 h4 h5 h6 => ?_)
  have M : RowM n kd w0 w' sg (nnOf spare) mv [] := by
    refine @RowM.mk _ _ _ _ _ _ _ _ ts r (x ++ x') hsg h1 h6 .nil (by cases r <;> first | exact True.intro | (intro y hy; cases hy)) ?_ ?_ ?_ ?_
    · refine Lay.append hlay ?_
      rw [show itsToks [] = [] from rfl, List.append_nil, ← str_len_app, ← hwd]; exact h2
    · rw [h3, hwd, str_app_assoc]
    · cases r with
      | ok t => exact .inl rfl
      | bad post =>
        have := h4.resolve_left id
        rw [hlk] at this
        exact .inr (lackSt_none hl0 this).1
    · have hb : badPost r [] = r.st := by cases r <;> simp [badPost, Res.st, itsToks]
      rw [hb, h5, hlk, show itsToks [] = [] from rfl, List.append_nil]
      cases sg with
      | none => rfl
      | some sx => exact (lackSt_cons hl0).symm
  trivial
  refine cw_append (rs_D ra) (by simp) ?_
  have er : MO.riter ((0 : Int) + 1) ((cnt : Int) + 1 - 1) = .riter (((0 : Nat) : Int) + 1) (cnt - ((0 : Nat) : Int)) := by congr 1 <;> lia
  dsimp only
  rw [show ([] : List MV).reverse ++ [mv] = [mv].reverse from rfl, rs_setD ra, er]
  have est : (sgSt kd sg, [mv]) = runSt kd sg mv [] := rfl
  rw [est]
  refine beh_next (row_mid hO ok ra hl0 hw0 hc (m0 := mv) (sg := sg) (fun its a b w ml o M hil p g1 g2 => ?_) cnt 0 [] a' b' w' (by lia) rfl p4 M)
  have hits : ItsP (OpdP n) kd (nnOf spare) its := by cases M with | mk _ _ _ h => exact h
  have hrl := runSt_len (sg := sg) (m0 := mv) hits
  refine beh_next (sw_cons (s_while ?_))
  rw [rs_sts ra]
  refine ww_redall ra.dt g1 g2 (runSt kd sg mv its).1 (runSt kd sg mv its).2 (by lia) (by lia) hrl.1 ?_
  rw [← rs_sts ra]
  have hra := redAll_len hrl.1
  obtain ⟨t, ht⟩ : ∃ t, redAll (runSt kd sg mv its).1 (runSt kd sg mv its).2 = [t] := List.length_eq_one_iff.mp hra
  have hrt : runTree kd sg mv its = t := by unfold runTree; rw [ht]; rfl
  rw [ht]
  trivial
  refine ew_local g2 ?_
  trivial
  have hL : ∀ {s}, ListAt c (.ref D) (RS W base T D it o (s, [t]) a b w) [t] := fun {_} => la_ref (rs_D ra)
  refine ⟨st_list hL, ow_idx hL (by decide) (by decide) rfl ?_⟩
  trivial
  refine ⟨_, gs_sub (sub_news hT hD hbi), ?_⟩
  rw [← hrt]
  exact rowm_end q M hil p
end
section
noncomputable def ifB : Stmt → List Stmt
  | .If _ b _ _ => b
  | _ => []
theorem kd_sign {kd : Kd} (h : kd ≠ .b) : getF kd.str (putAll [] [("i", .str "neg"), ("s", .str "s~")]) = some (.str (signName kd "-")) := by
  cases kd with
  | b => exact absurd rfl h
  | i => unfold Kd.str; decreasing_trivial
  | s => unfold Kd.str; decreasing_trivial
noncomputable abbrev row1ML (W : GAd) (kd : Kd) (n : Nat) (T D : Addr) : Loc := setM "done" (.ref D) (setM "waiting" (.ref T) (setM "form" (.str kd.form) ([("pool" : Str), "world", "kind", "deep"].zip ([.ref W.pool, .ref W.world, .str kd.str, .int (2 - n)] ++ []))))
theorem sg_ok {kd : Kd} (hk : kd ≠ .b) {sign : Str} (hs : sign = "-" ∨ sign = "+" ∧ kd = .i) (p : Nat) : SgOK kd (some (sign, p)) := by
  rcases hs with rfl | ⟨rfl, h⟩
  · exact .minus p hk
  · exact .plus p h
theorem row_sign {n k : Nat} {W : GAd} {base : MH} {fs : List Int} (ok : GOK W base fs) {T D : Addr} (td : TDA W T D) {kd : Kd} (hk : kd ≠ .b) {w0 : GW} (hl0 : LOK w0.lack) (hw0 : w0.wide.length + 12 * (4 * NO n + 4) ≤ 1000000)
    {R : Fl → Loc → MH → Prop} {sign : Str} (hs : sign = "-" ∨ sign = "+" ∧ kd = .i) {a b : Int} (p : POK a b)
    (go : ∀ {sg : Option (Str × Nat)} (_ : SgOK kd sg) {a b : Int} (_ : POK a b) {w : GW} {x : Str} (_ : Lay w0.wide.length (sgToks sg) x) (_ : w.wide = w0.wide ++ x) (_ : w.lack = lackSt w0.lack (sgToks sg) none) {ml : Loc} (_ : LSub (row0ML W kd n T D) ml), R .next ml (GS W (stS base T D (sgSt kd sg, [])) a b w)) :
    SW c (k + 2) (fScope (topAt 150)) ((ifB (stA rowB 3)).drop 1) (setM "sign" (.str sign) (row1ML W kd n T D)) (GS W (stS base T D ([], [])) a b w0) R := by
  have hsl : sign.length = 1 := by rcases hs with rfl | ⟨rfl, _⟩ <;> rfl
  have hsym : sign ∈ symNames := by rcases hs with rfl | ⟨rfl, _⟩ <;> decide +kernel
  unfold row1ML
  refine sw_cons ?_
  trivial
  refine ew_callG pk.fLput.g pk.fLput.k ?_
  trivial
  refine FW.cw (put_w (td.ok ok _) p (by lia) fun a3 b3 y p3 => ?_)
  have e := str_len_app w0.wide (sepAt y)
  trivial
  refine ew_callG pk.fLlack.g pk.fLlack.k ?_
  trivial
  refine FW.cw (lack_w hl0 ?_)
  rw [e]
  have hT : ∀ {a b w}, GS W (stS base T D ([], [])) a b w T = some (.list []) := fun {a b w} => by rw [gs_at td.t1 td.t2]; exact sts_T td.dt
  trivial
  refine ⟨_, mi_append hT, keeps_bi, ?_⟩
  trivial
  refine if_mono (Q' := fun v σ => v = .str (signName kd sign) ∧ σ = GS W (stS base T D ([], [])) a3 b3 { wide := w0.wide ++ sepAt y ++ sign, lack := lackNow w0.lack (w0.wide.length + (sepAt y).length : Nat), room := w0.room }) ?_ ?_
  · refine if_d (fun h => ?_) (fun h => ?_)
    · subst h
      trivial
      refine ⟨_, _, rfl, rfl, kd_sign hk, ?_⟩
      exact ⟨rfl, rfl⟩
    · trivial
      exact ⟨by unfold signName; rw [if_neg h], rfl⟩
  intro v σ ⟨ev, eσ⟩
  subst ev eσ
  trivial
  refine cw_append hT (by simp) ?_
  have eT : ([] : List MV) ++ [.tup [.str (signName kd sign), .int 2, .int (w0.wide.length + (sepAt y).length : Nat), .str kd.form]] = ((sgSt kd (some (sign, w0.wide.length + (sepAt y).length))).map Wt.mv).reverse := rfl
  rw [eT, gs_upd td.t1 td.t2, sts_setT td.dt]
  have L1 : Lay w0.wide.length (sgToks (some (sign, w0.wide.length + (sepAt y).length))) (sepAt y ++ sign) := Lay.one (.sym sign hsym)
  refine beh_next (sw_nil (go (sg_ok hk hs _) p3 L1 (str_app_assoc _ _ _) rfl ?_))
  repeat (first | exact lsub_nil | refine lsub_cons (by decreasing_trivial) ?_)
theorem row_w {n k : Nat} (hn : n ≤ 2) (hO : OpdW n (k + 2)) : RowW n (k + 3) := by
  intro W base fs a b w0 ok p hl0 hw0 kd Q q
  refine FW.drop ?_
  refine fn_intro pk.fLrow.d rfl ?_
  refine sw_cons ?_
  trivial
  refine ⟨_, _, rfl, rfl, kd_form kd, ?_⟩
  trivial
  refine ew_list (ews_nil ⟨by decide, fun T hT => ?_⟩)
  trivial
  refine ew_list (ews_nil ⟨by decide, fun D hD => ?_⟩)
  have hdt : D ≠ T := fun e => by subst e; rw [updH_same] at hD; cases hD
  rw [updH_ne hdt] at hD
  obtain ⟨t1, t2, t3, hT'⟩ := gs_fresh ok hT
  obtain ⟨d1, d2, d3, hD'⟩ := gs_fresh ok hD
  have td : TDA W T D := ⟨t1, t2, t3, d1, d2, d3, hdt⟩
  have e0 : updH (updH (GS W base a b w0) T (.list [])) D (.list []) = GS W (stS base T D ([], [])) a b w0 := (gs_sts t1 t2 d1 d2 (st := ([], []))).symm
  have go : ∀ {sg : Option (Str × Nat)} (_ : SgOK kd sg) {a b : Int} (_ : POK a b) {w : GW} {x : Str} (_ : Lay w0.wide.length (sgToks sg) x) (_ : w.wide = w0.wide ++ x) (_ : w.lack = lackSt w0.lack (sgToks sg) none) {ml : Loc} (_ : LSub (row0ML W kd n T D) ml),
      SW c (k + 2) (fScope (topAt 150)) (rowB.drop 4) ml (GS W (stS base T D (sgSt kd sg, [])) a b w) (retP fun v σ => ∃ σ₂, Sub σ₂ σ ∧ Q v σ₂) := by
    intro sg hsg a b p w x hlay hwd hlk ml hml
    refine SW.loco hml ?_
    have fin : ∀ {a b} {cnt : Nat}, POK a b → cnt ≤ 3 → SW c (k + 2) (fScope (topAt 150)) (rowB.drop 5) (setM "count" (.int cnt) (row0ML W kd n T D)) (GS W (stS base T D (sgSt kd sg, [])) a b w) (retP fun v σ => ∃ σ₂, Sub σ₂ σ ∧ Q v σ₂) := fun p hc => row_for hO ok hT' hD' td hl0 hw0 q hsg p hlay hwd hlk hc
    refine sw_cons ?_
    trivial
    refine ew_callG pk.fLpick.g pk.fLpick.k ?_
    trivial
    refine if_d (fun h => ?_) (fun h => ?_)
    · trivial
      refine FW.cw (pick_w (td.ok ok _) p (by decide) fun a1 b1 r p1 h0 hr => ?_)
      obtain ⟨cnt, rfl⟩ := Int.eq_ofNat_of_zero_le h0
      exact beh_next (fin p1 (by lia))
    · trivial
      refine FW.cw (pick_w (td.ok ok _) p (by decide) fun a1 b1 r p1 h0 hr => ?_)
      obtain ⟨cnt, rfl⟩ := Int.eq_ofNat_of_zero_le h0
      exact beh_next (fin p1 (by lia))
  have hml : LSub (row0ML W kd n T D) (setM "done" (.ref D) (setM "waiting" (.ref T) (setM "form" (.str kd.form) ([("pool" : Str), "world", "kind", "deep"].zip ([.ref W.pool, .ref W.world, .str kd.str, .int (2 - n)] ++ []))))) := by
    repeat (first | exact lsub_nil | refine lsub_cons (by decreasing_trivial) ?_)
  rw [e0]
  refine beh_next (sw_cons ?_)
  trivial
  refine if_d (fun hk => ?_) (fun hk => ?_)
  · trivial
    refine ew_callG pk.fLpick.g pk.fLpick.k ?_
    trivial
    refine FW.cw (pick_w (td.ok ok _) p (by decide) fun a1 b1 r p1 h0 hr => ?_)
    trivial
    refine if_d (fun h1 => ?_) (fun h1 => ?_)
    · trivial
      refine if_d (fun h2 => ?_) (fun h2 => ?_)
      · trivial
        refine ew_callG pk.fLpick.g pk.fLpick.k ?_
        trivial
        refine FW.cw (pick_w (td.ok ok _) p1 (by decide) fun a2 b2 r2 p2 h3 h4 => ?_)
        obtain ⟨i, rfl⟩ := Int.eq_ofNat_of_zero_le h3
        have hi : i < 2 := by lia
        refine ⟨st_str, ow_stridx (by lia) (by lia) (d := if i = 0 then 45 else 43) (by match i, hi with | 0, _ => rfl | 1, _ => rfl) ?_⟩
        have hki : kd = .i := by cases kd <;> first | rfl | (exact absurd h2 (by simp only [Kd.str, ofS_inj, String.reduceEq, not_false_eq_true]))
        refine beh_next (row_sign ok td (by rw [hki]; decide) hl0 hw0 (sign := ⟨#[if i = 0 then 45 else 43]⟩) ?_ p2 fun h1 _ _ h2 _ _ h3 h4 h5 _ h6 => beh_next (go h1 h2 h3 h4 h5 h6))
        match i, hi with
        | 0, _ => exact .inl rfl
        | 1, _ => exact .inr ⟨rfl, hki⟩
      · refine ew_str ?_
        refine beh_next (row_sign ok td (fun e => by subst e; exact hk rfl) hl0 hw0 (.inl rfl) p1 fun h1 _ _ h2 _ _ h3 h4 h5 _ h6 => beh_next (go h1 h2 h3 h4 h5 h6))
    · exact sw_nil (beh_next (go (sg := none) .none p1 .nil (str_app_nil _).symm rfl hml))
  · exact if_f (sw_nil (beh_next (go (sg := none) .none p .nil (str_app_nil _).symm rfl hml)))
end
section
theorem OpdW.le {n k k' : Nat} (h : OpdW n k) (hk : k ≤ k') : OpdW n k' := fun {_ _ _ _ _ _} ok p hl hw kd pl bh {_} q => (h ok p hl hw kd pl bh q).le hk
theorem RowW.le {n k k' : Nat} (h : RowW n k) (hk : k ≤ k') : RowW n k' := fun {_ _ _ _ _ _} ok p hl hw kd {_} q => (h ok p hl hw kd q).le hk
theorem RelW'.le {n k k' : Nat} (h : RelW' n k) (hk : k ≤ k') : RelW' n k' := fun {_ _ _ _ _ _} ok p hl hw {_} q => (h ok p hl hw q).le hk
theorem gen_w : ∀ n, n ≤ 2 → OpdW n (3 * n + 3) ∧ RowW n (3 * n + 4) ∧ RelW' n (3 * n + 5)
  | 0, _ => by
    have h0 : OpdW 0 3 := operand_w (k := 0) fun m hm => by cases hm
    have h1 : RowW 0 4 := row_w (k := 1) (by lia) h0
    exact ⟨h0, h1, relation_w (k := 2) h1⟩
  | n + 1, hn => by
    obtain ⟨a, b, d⟩ := gen_w n (by lia)
    have h0 : OpdW (n + 1) (3 * (n + 1) + 3) := operand_w (k := 3 * n + 3) fun m hm => by
      obtain rfl : m = n := by lia
      exact ⟨a.le (by lia), b.le (by lia), d⟩
    have h1 : RowW (n + 1) (3 * (n + 1) + 4) := row_w (k := 3 * (n + 1) + 1) hn h0
    exact ⟨h0, h1, relation_w (k := 3 * (n + 1) + 2) h1⟩
end
/-- the reading side: addresses -/
structure PAd where
  rd : Addr
  rdd : Addr
  sc : Addr
  scd : Addr
  er : Addr
  erd : Addr
  rows : Addr
  places : Addr
  ss : Addr
  ssd : Addr
  stk : Addr
  g0 : Addr
  g1 : Addr
  g1d : Addr
  nms : Addr
  kn : Addr
  vo : Kd → Bool → Addr
  vd : Kd → Bool → Addr
structure PSt where
  place : Nat
  tok : MV
  rows : List MV
  ps : List (Int × MV)
noncomputable def kwL : List Str := ["ARRAY", "BEGIN", "BY", "CASE", "CONST", "DIV", "DO", "ELSE", "ELSIF", "END", "FOR", "IF", "IMPORT", "IN", "IS", "MOD", "MODULE", "NIL", "OF", "OR", "POINTER", "PROCEDURE", "RECORD", "REPEAT", "RETURN", "THEN", "TO", "TYPE", "UNTIL", "VAR", "WHILE"]
section
noncomputable def tyV (num : Int) (form : Str) (size : Int) : MV := .finst (pk.ca 132) [("number", .int num), ("form", .str form), ("size", .int size), ("base", .none), ("length", .int 0), ("fields", .flist []), ("level", .int 0), ("params", .flist []), ("module", .str ""), ("label", .str ""), ("hidden", .flist []), ("exno", .int 0)]
noncomputable def tyB : MV := tyV 1 "boolean" 1
noncomputable def tyI : MV := tyV 4 "integer" 4
noncomputable def tyS : MV := tyV 5 "set" 4
noncomputable def tyK : Kd → MV
  | .i => tyI
  | .s => tyS
  | .b => tyB
noncomputable def tysV (kn : Addr) : MV := .finst (pk.ca 134) [("counter", .int 7), ("known", .ref kn), ("boolean", tyB), ("char", tyV 2 "char" 1), ("byte", tyV 3 "byte" 1), ("integer", tyI), ("mask", tyS), ("nil", tyV 6 "nil" 4), ("none", tyV 7 "none" 0)]
noncomputable def tkV (kind : Str) (val : MV) (place : Int) : MV := .finst (pk.ca 123) [("kind", .str kind), ("value", val), ("place", .int place)]
noncomputable def ND (op : Str) (p : Int) (t : MV) (kids : List MV) (v : MV) : MV := .finst (pk.ca 2) [("op", .str op), ("place", .int p), ("type", t), ("kids", .flist kids), ("value", v), ("sure", .bool false)]
noncomputable def scfs (W : PAd) (src : Str) (p : Int) : List (Str × MV) := [("source", .str src), ("errors", .ref W.er), ("place", .int p), ("words", .tup (kwL.map .str))]
noncomputable def tokF : MV → List (Str × MV)
  | .none => []
  | t => [("token", t)]
noncomputable def isTok (t : MV) : Prop := tokF t = ([("token", t)] : List (Str × MV))
noncomputable def rdfs (W : PAd) (tok : MV) : List (Str × MV) := ([("scanner", .ref W.sc), ("types", tysV W.kn), ("errors", .ref W.er), ("importer", .none), ("scopes", .ref W.ss), ("module", .str ""), ("procs", .flist []), ("records", .flist []), ("forwards", .flist []), ("level", .int 0)] : List (Str × MV)) ++ tokF tok
theorem isTok_tk {kind : Str} {v : MV} {p : Int} : isTok (tkV kind v p) := rfl
theorem rdfs_tok {W : PAd} {t : MV} (h : isTok t) : rdfs W t = ([("scanner", .ref W.sc), ("types", tysV W.kn), ("errors", .ref W.er), ("importer", .none), ("scopes", .ref W.ss), ("module", .str ""), ("procs", .flist []), ("records", .flist []), ("forwards", .flist []), ("level", .int 0), ("token", t)] : List (Str × MV)) := by
  unfold rdfs; rw [show tokF t = _ from h]; rfl
theorem rdfs_or {W : PAd} {t : MV} : rdfs W t = ([("scanner", .ref W.sc), ("types", tysV W.kn), ("errors", .ref W.er), ("importer", .none), ("scopes", .ref W.ss), ("module", .str ""), ("procs", .flist []), ("records", .flist []), ("forwards", .flist []), ("level", .int 0)] : List (Str × MV)) ∨ isTok t := by
  cases t <;> first | exact .inr rfl | exact .inl rfl
noncomputable def PS (W : PAd) (src : Str) (base : MH) (s : PSt) : MH :=
  updH (updH (updH (updH base W.scd (.ns (scfs W src s.place))) W.rdd (.ns (rdfs W s.tok))) W.rows (.list s.rows)) W.places (.idt s.ps)
structure POKs (W : PAd) (src : Str) (base : MH) : Prop where
  f1 : base W.scd = none
  f2 : base W.rdd = none
  f3 : base W.rows = none
  f4 : base W.places = none
  n12 : W.scd ≠ W.rdd
  n13 : W.scd ≠ W.rows
  n14 : W.scd ≠ W.places
  n23 : W.rdd ≠ W.rows
  n24 : W.rdd ≠ W.places
  n34 : W.rows ≠ W.places
  sc : base W.sc = some (.inst (pk.ca 130) W.scd)
  rd : base W.rd = some (.inst (pk.ca 143) W.rdd)
  er : base W.er = some (.inst (pk.ca 119) W.erd)
  erd : base W.erd = some (.ns [("rows", .ref W.rows), ("places", .ref W.places)])
  len : src.length ≤ 1000000
variable {W : PAd} {src : Str} {base : MH} {s : PSt}
theorem ps_at (ok : POKs W src base) {a : Addr} {o : MO} (h : base a = some o) : PS W src base s a = some o := by
  unfold PS
  rw [updH_ne (ne_of_fresh ok.f4 h), updH_ne (ne_of_fresh ok.f3 h), updH_ne (ne_of_fresh ok.f2 h), updH_ne (ne_of_fresh ok.f1 h)]; exact h
theorem ps_scd (ok : POKs W src base) : PS W src base s W.scd = some (.ns (scfs W src s.place)) := by
  unfold PS
  rw [updH_ne ok.n14, updH_ne ok.n13, updH_ne ok.n12]; exact updH_same ..
theorem ps_rdd (ok : POKs W src base) : PS W src base s W.rdd = some (.ns (rdfs W s.tok)) := by
  unfold PS
  rw [updH_ne ok.n24, updH_ne ok.n23]; exact updH_same ..
theorem ps_rows (ok : POKs W src base) : PS W src base s W.rows = some (.list s.rows) := by
  unfold PS
  rw [updH_ne ok.n34]; exact updH_same ..
theorem ps_places : PS W src base s W.places = some (.idt s.ps) := updH_same ..
theorem ps_setscd (ok : POKs W src base) {p : Nat} : updH (PS W src base s) W.scd (.ns (scfs W src p)) = PS W src base { s with place := p } := by
  unfold PS
  rw [updH_comm (Ne.symm ok.n14), updH_comm (Ne.symm ok.n13), updH_comm (Ne.symm ok.n12), updH_updH]
theorem ps_setrdd (ok : POKs W src base) {t : MV} : updH (PS W src base s) W.rdd (.ns (rdfs W t)) = PS W src base { s with tok := t } := by
  unfold PS
  rw [updH_comm (Ne.symm ok.n24), updH_comm (Ne.symm ok.n23), updH_updH]
theorem ps_setrows (ok : POKs W src base) {l : List MV} : updH (PS W src base s) W.rows (.list l) = PS W src base { s with rows := l } := by
  unfold PS
  rw [updH_comm (Ne.symm ok.n34), updH_updH]
theorem ps_setplaces {l : List (Int × MV)} : updH (PS W src base s) W.places (.idt l) = PS W src base { s with ps := l } := by
  unfold PS
  rw [updH_updH]
theorem ps_sub {base' : MH} (h : Sub base base') : Sub (PS W src base s) (PS W src base' s) := sub_upd (sub_upd (sub_upd (sub_upd h)))
-- fields
theorem sc_source {p : Int} : getF "source" (scfs W src p) = some (.str src) := by unfold scfs; decreasing_trivial
theorem sc_errors {p : Int} : getF "errors" (scfs W src p) = some (.ref W.er) := by unfold scfs; decreasing_trivial
theorem sc_place {p : Int} : getF "place" (scfs W src p) = some (.int p) := by unfold scfs; decreasing_trivial
theorem sc_words {p : Int} : getF "words" (scfs W src p) = some (.tup (kwL.map .str)) := by unfold scfs; decreasing_trivial
theorem sc_set {p q : Int} : putF "place" (.int q) (scfs W src p) = scfs W src q := by unfold scfs; decreasing_trivial
theorem rd_scanner {t : MV} : getF "scanner" (rdfs W t) = some (.ref W.sc) := by unfold rdfs; decreasing_trivial
theorem rd_types {t : MV} : getF "types" (rdfs W t) = some (tysV W.kn) := by unfold rdfs; decreasing_trivial
theorem rd_errors {t : MV} : getF "errors" (rdfs W t) = some (.ref W.er) := by unfold rdfs; decreasing_trivial
theorem rd_scopes {t : MV} : getF "scopes" (rdfs W t) = some (.ref W.ss) := by unfold rdfs; decreasing_trivial
theorem rd_token {t : MV} (h : isTok t) : getF "token" (rdfs W t) = some t := by rw [rdfs_tok h]; decreasing_trivial
theorem rd_set {t u : MV} (h : isTok u) : putF "token" u (rdfs W t) = rdfs W u := by
  rw [rdfs_tok h]
  rcases rdfs_or (W := W) (t := t) with e | e
  · rw [e]; decreasing_trivial
  · rw [rdfs_tok e]; decreasing_trivial
theorem rd_nom {t : MV} {x : Str} (h : x ∈ (["step", "at", "skip", "expect", "mark", "name"] : List Str)) : getF x (rdfs W t) = none := by
  simp only [List.mem_cons, List.not_mem_nil, or_false] at h
  rcases rdfs_or (W := W) (t := t) with e | e
  · rw [e]; obtain rfl | rfl | rfl | rfl | rfl | rfl := h <;> decreasing_trivial
  · rw [rdfs_tok e]; obtain rfl | rfl | rfl | rfl | rfl | rfl := h <;> decreasing_trivial
theorem rd_mem {t : MV} {x : Str} (h : x ∈ (rdfs W t).map (·.1)) : x ∈ (["scanner", "types", "errors", "importer", "scopes", "module", "procs", "records", "forwards", "level", "token"] : List Str) := by
  rcases rdfs_or (W := W) (t := t) with e | e
  · rw [e] at h
    have h' : x ∈ (["scanner", "types", "errors", "importer", "scopes", "module", "procs", "records", "forwards", "level"] : List Str) := h
    have := List.mem_append_left (["token"] : List Str) h'
    exact this
  · rw [rdfs_tok e] at h; exact h
theorem rd_len {t : MV} : (rdfs W t).length ≤ 900 := by
  rcases rdfs_or (W := W) (t := t) with e | e
  · rw [e]; exact Nat.le_of_ble_eq_true rfl
  · rw [rdfs_tok e]; exact Nat.le_of_ble_eq_true rfl
theorem sc_nom {p : Int} {x : Str} (h : x ∈ (["char", "take", "skip", "remark", "word", "numeral", "whole", "symbol"] : List Str)) : getF x (scfs W src p) = none := by
  simp only [List.mem_cons, List.not_mem_nil, or_false] at h
  obtain rfl | rfl | rfl | rfl | rfl | rfl | rfl | rfl := h <;> (unfold scfs; decreasing_trivial)
end
section
theorem getF_mem {x : Str} {r : MV} : ∀ {fs : List (Str × MV)}, getF x fs = some r → x ∈ fs.map (·.1)
  | [], h => by cases h
  | (y, v) :: l, h => by
    unfold getF at h
    by_cases e : x = y
    · subst e; exact .head _
    · rw [if_neg e] at h; exact .tail _ (getF_mem h)
section
variable {W : PAd} {src : Str} {base : MH} {s : PSt} {k : Nat} {x : Str} {r : MV} {σ : MH}
theorem ga_sc (ok : POKs W src base) (h : getF x (scfs W src s.place) = some r) : GA c k (.ref W.sc) (PS W src base s) x r :=
  ga_inst pk.cScanner.d (ps_at ok ok.sc) (ps_scd ok) (show x ∈ (scfs W src s.place).map (·.1) from getF_mem h) h
theorem ga_rd (ok : POKs W src base) (h : getF x (rdfs W s.tok) = some r) : GA c k (.ref W.rd) (PS W src base s) x r :=
  ga_inst pk.cReader.d (ps_at ok ok.rd) (ps_rdd ok) (rd_mem (getF_mem h)) h
theorem ga_er (ok : POKs W src base) (h : getF x [("rows", .ref W.rows), ("places", .ref W.places)] = some r) : GA c k (.ref W.er) (PS W src base s) x r :=
  ga_inst pk.cErrorList.d (ps_at ok ok.er) (ps_at ok ok.erd) (show x ∈ ([("rows", .ref W.rows), ("places", .ref W.places)] : List (Str × MV)).map (·.1) from getF_mem h) h
theorem ga_tk {kind : Str} {v : MV} {p : Int} (h : getF x [("kind", .str kind), ("value", v), ("place", .int p)] = some r) : GA c k (tkV kind v p) σ x r :=
  ga_finst pk.cToken.d (show x ∈ ([("kind", .str kind), ("value", v), ("place", .int p)] : List (Str × MV)).map (·.1) from getF_mem h) h
theorem ga_nd {op : Str} {p : Int} {t : MV} {kids : List MV} {v : MV} (h : getF x [("op", .str op), ("place", .int p), ("type", t), ("kids", .flist kids), ("value", v), ("sure", .bool false)] = some r) : GA c k (ND op p t kids v) σ x r :=
  ga_finst pk.cNode.d (show x ∈ ([("op", .str op), ("place", .int p), ("type", t), ("kids", .flist kids), ("value", v), ("sure", .bool false)] : List (Str × MV)).map (·.1) from getF_mem h) h
theorem ga_ty {n : Int} {form : Str} {size : Int} (h : getF x [("number", .int n), ("form", .str form), ("size", .int size), ("base", .none), ("length", .int 0), ("fields", .flist []), ("level", .int 0), ("params", .flist []), ("module", .str ""), ("label", .str ""), ("hidden", .flist []), ("exno", .int 0)] = some r) : GA c k (tyV n form size) σ x r :=
  ga_finst pk.cType.d (show x ∈ ([("number", .int n), ("form", .str form), ("size", .int size), ("base", .none), ("length", .int 0), ("fields", .flist []), ("level", .int 0), ("params", .flist []), ("module", .str ""), ("label", .str ""), ("hidden", .flist []), ("exno", .int 0)] : List (Str × MV)).map (·.1) from getF_mem h) h
theorem ga_tys {kn : Addr} (h : getF x [("counter", .int 7), ("known", .ref kn), ("boolean", tyB), ("char", tyV 2 "char" 1), ("byte", tyV 3 "byte" 1), ("integer", tyI), ("mask", tyS), ("nil", tyV 6 "nil" 4), ("none", tyV 7 "none" 0)] = some r) : GA c k (tysV kn) σ x r :=
  ga_finst pk.cTypes.d (show x ∈ ([("counter", .int 7), ("known", .ref kn), ("boolean", tyB), ("char", tyV 2 "char" 1), ("byte", tyV 3 "byte" 1), ("integer", tyI), ("mask", tyS), ("nil", tyV 6 "nil" 4), ("none", tyV 7 "none" 0)] : List (Str × MV)).map (·.1) from getF_mem h) h
theorem mi_sc (ok : POKs W src base) {f : Addr} (hm : (x, f) ∈ ([("char", pk.ma 130 1), ("take", pk.ma 130 2), ("skip", pk.ma 130 3), ("remark", pk.ma 130 4), ("word", pk.ma 130 5), ("numeral", pk.ma 130 6), ("whole", pk.ma 130 7), ("symbol", pk.ma 130 13)] : List (Str × Addr))) : MethIs c k (.ref W.sc) (PS W src base s) x (.ref f) :=
  mi_inst pk.cScanner.d (ps_at ok ok.sc) (ps_scd ok) (.tail _ hm) (sc_nom (show x ∈ ([("char", pk.ma 130 1), ("take", pk.ma 130 2), ("skip", pk.ma 130 3), ("remark", pk.ma 130 4), ("word", pk.ma 130 5), ("numeral", pk.ma 130 6), ("whole", pk.ma 130 7), ("symbol", pk.ma 130 13)] : List (Str × Addr)).map (·.1) from List.mem_map_of_mem hm))
theorem mi_rd (ok : POKs W src base) {f : Addr} (hm : (x, f) ∈ ([("step", pk.ma 143 1), ("at", pk.ma 143 2), ("skip", pk.ma 143 3), ("expect", pk.ma 143 4), ("mark", pk.ma 143 5), ("name", pk.ma 143 6)] : List (Str × Addr))) : MethIs c k (.ref W.rd) (PS W src base s) x (.ref f) :=
  mi_inst pk.cReader.d (ps_at ok ok.rd) (ps_rdd ok) (.tail _ hm) (rd_nom (show x ∈ ([("step", pk.ma 143 1), ("at", pk.ma 143 2), ("skip", pk.ma 143 3), ("expect", pk.ma 143 4), ("mark", pk.ma 143 5), ("name", pk.ma 143 6)] : List (Str × Addr)).map (·.1) from List.mem_map_of_mem hm))
theorem mi_er (ok : POKs W src base) : MethIs c k (.ref W.er) (PS W src base s) "mark" (.ref (pk.ma 119 1)) :=
  mi_inst pk.cErrorList.d (ps_at ok ok.er) (ps_at ok ok.erd) (.tail _ (.head _)) (by decreasing_trivial)
theorem x_rd_token (ok : POKs W src base) (h : isTok s.tok) {P : MV → Prop} (q : P s.tok) : ∃ r, GA c k (.ref W.rd) (PS W src base s) "token" r ∧ P r := ⟨_, ga_rd ok (rd_token h), q⟩
theorem x_rd_types (ok : POKs W src base) {P : MV → Prop} (q : P (tysV W.kn)) : ∃ r, GA c k (.ref W.rd) (PS W src base s) "types" r ∧ P r := ⟨_, ga_rd ok rd_types, q⟩
theorem x_rd_errors (ok : POKs W src base) {P : MV → Prop} (q : P (.ref W.er)) : ∃ r, GA c k (.ref W.rd) (PS W src base s) "errors" r ∧ P r := ⟨_, ga_rd ok rd_errors, q⟩
theorem x_rd_scanner (ok : POKs W src base) {P : MV → Prop} (q : P (.ref W.sc)) : ∃ r, GA c k (.ref W.rd) (PS W src base s) "scanner" r ∧ P r := ⟨_, ga_rd ok rd_scanner, q⟩
theorem x_rd_scopes (ok : POKs W src base) {P : MV → Prop} (q : P (.ref W.ss)) : ∃ r, GA c k (.ref W.rd) (PS W src base s) "scopes" r ∧ P r := ⟨_, ga_rd ok rd_scopes, q⟩
theorem x_sc_place (ok : POKs W src base) {P : MV → Prop} (q : P (.int s.place)) : ∃ r, GA c k (.ref W.sc) (PS W src base s) "place" r ∧ P r := ⟨_, ga_sc ok sc_place, q⟩
theorem x_sc_source (ok : POKs W src base) {P : MV → Prop} (q : P (.str src)) : ∃ r, GA c k (.ref W.sc) (PS W src base s) "source" r ∧ P r := ⟨_, ga_sc ok sc_source, q⟩
theorem x_sc_errors (ok : POKs W src base) {P : MV → Prop} (q : P (.ref W.er)) : ∃ r, GA c k (.ref W.sc) (PS W src base s) "errors" r ∧ P r := ⟨_, ga_sc ok sc_errors, q⟩
theorem x_sc_words (ok : POKs W src base) {P : MV → Prop} (q : P (.tup (kwL.map .str))) : ∃ r, GA c k (.ref W.sc) (PS W src base s) "words" r ∧ P r := ⟨_, ga_sc ok sc_words, q⟩
theorem x_tk {kind : Str} {v : MV} {p : Int} (h : getF x [("kind", .str kind), ("value", v), ("place", .int p)] = some r) {P : MV → Prop} (q : P r) : ∃ r, GA c k (tkV kind v p) σ x r ∧ P r := ⟨_, ga_tk h, q⟩
theorem x_nd {op : Str} {p : Int} {t : MV} {kids : List MV} {v : MV} (h : getF x [("op", .str op), ("place", .int p), ("type", t), ("kids", .flist kids), ("value", v), ("sure", .bool false)] = some r) {P : MV → Prop} (q : P r) : ∃ r, GA c k (ND op p t kids v) σ x r ∧ P r := ⟨_, ga_nd h, q⟩
theorem x_ty {n : Int} {form : Str} {size : Int} (h : getF x [("number", .int n), ("form", .str form), ("size", .int size), ("base", .none), ("length", .int 0), ("fields", .flist []), ("level", .int 0), ("params", .flist []), ("module", .str ""), ("label", .str ""), ("hidden", .flist []), ("exno", .int 0)] = some r) {P : MV → Prop} (q : P r) : ∃ r, GA c k (tyV n form size) σ x r ∧ P r := ⟨_, ga_ty h, q⟩
theorem x_tys {kn : Addr} (h : getF x [("counter", .int 7), ("known", .ref kn), ("boolean", tyB), ("char", tyV 2 "char" 1), ("byte", tyV 3 "byte" 1), ("integer", tyI), ("mask", tyS), ("nil", tyV 6 "nil" 4), ("none", tyV 7 "none" 0)] = some r) {P : MV → Prop} (q : P r) : ∃ r, GA c k (tysV kn) σ x r ∧ P r := ⟨_, ga_tys h, q⟩
theorem x_er (ok : POKs W src base) (h : getF x [("rows", .ref W.rows), ("places", .ref W.places)] = some r) {P : MV → Prop} (q : P r) : ∃ r, GA c k (.ref W.er) (PS W src base s) x r ∧ P r := ⟨_, ga_er ok h, q⟩
end
end
/-- what is written at a place -/
noncomputable def Rd (src : Str) (p : Nat) (l : List Nat) : Prop := src.cps.toList.drop p = l
noncomputable def chr (src : Str) (p : Nat) : Str := cut src p (p + 1)
theorem Rd.chr {src : Str} {p a : Nat} {l : List Nat} (h : Rd src p (a :: l)) : chr src p = ⟨#[a]⟩ := by
  unfold Nu.chr cut
  rw [show src.cps.toList.drop p = a :: l from h, show p + 1 - p = 1 from by lia]; rfl
theorem Rd.chr0 {src : Str} {p : Nat} (h : Rd src p []) : Nu.chr src p = ⟨#[]⟩ := by
  unfold Nu.chr cut
  rw [show src.cps.toList.drop p = [] from h]; simp
theorem Rd.next {src : Str} {p a : Nat} {l : List Nat} (h : Rd src p (a :: l)) : Rd src (p + 1) l := by
  unfold Rd at h ⊢
  rw [← List.drop_drop, h]; rfl
theorem Rd.app {src : Str} {p : Nat} : ∀ {w l : List Nat}, Rd src p (w ++ l) → Rd src (p + w.length) l
  | [], _, h => h
  | a :: w, l, h => by
    have := Rd.app (w := w) (l := l) (Rd.next h)
    rwa [show p + 1 + w.length = p + (a :: w).length from by simp; lia] at this
theorem Rd.cut {src : Str} {p : Nat} {w l : List Nat} (h : Rd src p (w ++ l)) : Nu.cut src p (p + w.length) = ⟨w.toArray⟩ := by
  unfold Nu.cut
  rw [show src.cps.toList.drop p = w ++ l from h, show p + w.length - p = w.length from by lia]; simp
theorem Rd.le {src : Str} {p a : Nat} {l : List Nat} (h : Rd src p (a :: l)) : p < src.length := by
  unfold Rd at h
  unfold Str.length
  by_cases hp : p < src.cps.size
  · exact hp
  · rw [List.drop_of_length_le (by simp; lia)] at h; cases h
section
variable {W : PAd} {src : Str} {base : MH} {s : PSt} {k : Nat} {Q : MV → MH → Prop}
theorem src_line (ok : POKs W src base) : src.length ≤ sizeLine := by rw [sizeLine_eq]; have := ok.len; lia
theorem char0_w (ok : POKs W src base) (q : Q (.str (chr src s.place)) (PS W src base s)) : FW c (k + 1) (.ref (pk.ma 130 1)) [.ref W.sc] (PS W src base s) Q := by
  refine fn_intro pk.mScanner_char.d rfl ?_
  refine sw_cons ?_
  trivial
  exact ⟨src, s.place, s.place + 1, rfl, by congr 1, by congr 1, by lia, src_line ok, q⟩
theorem char1_w (ok : POKs W src base) {n : Nat} (q : Q (.str (chr src (s.place + n))) (PS W src base s)) : FW c (k + 1) (.ref (pk.ma 130 1)) [.ref W.sc, .int n] (PS W src base s) Q := by
  refine fn_intro pk.mScanner_charF.d rfl ?_
  refine sw_cons ?_
  trivial
  exact ⟨src, s.place + n, s.place + n + 1, rfl, rfl, by congr 1, by lia, src_line ok, q⟩
theorem c_char0 (ok : POKs W src base) (q : Q (.str (chr src s.place)) (PS W src base s)) : CW c (k + 1) (.ref (pk.ma 130 1)) [.ref W.sc] (PS W src base s) Q := FW.cw (char0_w ok q)
theorem c_char1 (ok : POKs W src base) (q : Q (.str (chr src (s.place + 1))) (PS W src base s)) : CW c (k + 1) (.ref (pk.ma 130 1)) [.ref W.sc, .int 1] (PS W src base s) Q := FW.cw (char1_w ok (n := 1) q)
noncomputable def sle (a b : Str) : Bool := !(b.cps.toList < a.cps.toList)
theorem ow_sle {σ : MH} {a b : Str} (q : Q (.bool (sle a b)) σ) : OW c k (fun vs => compareOp .LtE (vs.getD 0 .none) (vs.getD 1 .none)) [.str a, .str b] σ Q := ow_lestr q
noncomputable def isLet (x : Str) : Bool := (sle "a" x && sle x "z") || (sle "A" x && sle x "Z")
noncomputable def isDig (x : Str) : Bool := sle "0" x && sle x "9"
noncomputable def isHex (x : Str) : Bool := isDig x || (sle "A" x && sle x "F")
theorem letter_w {σ : MH} {x : Str} (q : Q (.bool (isLet x)) σ) : FW c (k + 1) (.ref (pk.fa 125)) [.str x] σ Q := by
  unfold isLet at q
  refine fn_intro pk.fisletter.d rfl ?_
  refine sw_cons ?_
  trivial
  refine ow_sle (qb_ ?_)
  cases h1 : sle "a" x
  · rw [h1] at q
    trivial
    refine ow_sle (qb_ ?_)
    cases h2 : sle "A" x
    · rw [h2] at q
      trivial
      exact q
    · rw [h2] at q
      trivial
      refine ow_sle ?_
      trivial
      exact q
  · rw [h1] at q
    trivial
    refine ow_sle (qb_ ?_)
    cases h2 : sle x "z"
    · rw [h2] at q
      trivial
      refine ow_sle (qb_ ?_)
      cases h3 : sle "A" x
      · rw [h3] at q
        trivial
        exact q
      · rw [h3] at q
        trivial
        refine ow_sle ?_
        trivial
        exact q
    · rw [h2] at q
      trivial
      exact q
theorem digit_w {σ : MH} {x : Str} (q : Q (.bool (isDig x)) σ) : FW c (k + 1) (.ref (pk.fa 127)) [.str x] σ Q := by
  unfold isDig at q
  refine fn_intro pk.fisdigit.d rfl ?_
  refine sw_cons ?_
  trivial
  refine ow_sle (qb_ ?_)
  cases h1 : sle "0" x
  · rw [h1] at q
    trivial
    exact q
  · rw [h1] at q
    trivial
    refine ow_sle ?_
    trivial
    exact q
theorem hex_w {σ : MH} {x : Str} (q : Q (.bool (isHex x)) σ) : FW c (k + 2) (.ref (pk.fa 128)) [.str x] σ Q := by
  unfold isHex at q
  refine fn_intro pk.fishexdigit.d rfl ?_
  refine sw_cons ?_
  trivial
  refine ew_callG pk.fisdigit.g pk.fisdigit.k ?_
  trivial
  refine FW.cw (digit_w (qb_ ?_))
  cases h1 : isDig x
  · rw [h1] at q
    trivial
    refine ow_sle (qb_ ?_)
    cases h2 : sle "A" x
    · rw [h2] at q
      trivial
      exact q
    · rw [h2] at q
      trivial
      refine ow_sle ?_
      trivial
      exact q
  · rw [h1] at q
    trivial
    exact q
end
section
variable {W : PAd} {src : Str} {base : MH} {s : PSt} {k : Nat} {Q : MV → MH → Prop}
theorem m_char (ok : POKs W src base) {P : Value → Prop} (h : P (.ref (pk.ma 130 1))) : ∃ f, MethIs c k (.ref W.sc) (PS W src base s) "char" f ∧ Keeps c f ∧ P f := ⟨_, mi_sc ok (.head _), keeps_ref (pk.cScanner.d.meth _ _ (.tail _ (.head _))).2.2, h⟩
theorem m_take (ok : POKs W src base) {P : Value → Prop} (h : P (.ref (pk.ma 130 2))) : ∃ f, MethIs c k (.ref W.sc) (PS W src base s) "take" f ∧ Keeps c f ∧ P f := ⟨_, mi_sc ok (.tail _ (.head _)), keeps_ref (pk.cScanner.d.meth _ _ (.tail _ (.tail _ (.head _)))).2.2, h⟩
theorem m_scskip (ok : POKs W src base) {P : Value → Prop} (h : P (.ref (pk.ma 130 3))) : ∃ f, MethIs c k (.ref W.sc) (PS W src base s) "skip" f ∧ Keeps c f ∧ P f := ⟨_, mi_sc ok (.tail _ (.tail _ (.head _))), keeps_ref (pk.cScanner.d.meth _ _ (.tail _ (.tail _ (.tail _ (.head _))))).2.2, h⟩
theorem m_remark (ok : POKs W src base) {P : Value → Prop} (h : P (.ref (pk.ma 130 4))) : ∃ f, MethIs c k (.ref W.sc) (PS W src base s) "remark" f ∧ Keeps c f ∧ P f := ⟨_, mi_sc ok (.tail _ (.tail _ (.tail _ (.head _)))), keeps_ref (pk.cScanner.d.meth _ _ (.tail _ (.tail _ (.tail _ (.tail _ (.head _)))))).2.2, h⟩
theorem m_word (ok : POKs W src base) {P : Value → Prop} (h : P (.ref (pk.ma 130 5))) : ∃ f, MethIs c k (.ref W.sc) (PS W src base s) "word" f ∧ Keeps c f ∧ P f := ⟨_, mi_sc ok (.tail _ (.tail _ (.tail _ (.tail _ (.head _))))), keeps_ref (pk.cScanner.d.meth _ _ (.tail _ (.tail _ (.tail _ (.tail _ (.tail _ (.head _))))))).2.2, h⟩
theorem m_numeral (ok : POKs W src base) {P : Value → Prop} (h : P (.ref (pk.ma 130 6))) : ∃ f, MethIs c k (.ref W.sc) (PS W src base s) "numeral" f ∧ Keeps c f ∧ P f := ⟨_, mi_sc ok (.tail _ (.tail _ (.tail _ (.tail _ (.tail _ (.head _)))))), keeps_ref (pk.cScanner.d.meth _ _ (.tail _ (.tail _ (.tail _ (.tail _ (.tail _ (.tail _ (.head _)))))))).2.2, h⟩
theorem m_whole (ok : POKs W src base) {P : Value → Prop} (h : P (.ref (pk.ma 130 7))) : ∃ f, MethIs c k (.ref W.sc) (PS W src base s) "whole" f ∧ Keeps c f ∧ P f := ⟨_, mi_sc ok (.tail _ (.tail _ (.tail _ (.tail _ (.tail _ (.tail _ (.head _))))))), keeps_ref (pk.cScanner.d.meth _ _ (.tail _ (.tail _ (.tail _ (.tail _ (.tail _ (.tail _ (.tail _ (.head _))))))))).2.2, h⟩
theorem m_symbol (ok : POKs W src base) {P : Value → Prop} (h : P (.ref (pk.ma 130 13))) : ∃ f, MethIs c k (.ref W.sc) (PS W src base s) "symbol" f ∧ Keeps c f ∧ P f := ⟨_, mi_sc ok (.tail _ (.tail _ (.tail _ (.tail _ (.tail _ (.tail _ (.tail _ (.head _)))))))), keeps_ref (pk.cScanner.d.meth _ _ (.tail _ (.tail _ (.tail _ (.tail _ (.tail _ (.tail _ (.tail _ (.tail _ (.head _)))))))))).2.2, h⟩
theorem m_step (ok : POKs W src base) {P : Value → Prop} (h : P (.ref (pk.ma 143 1))) : ∃ f, MethIs c k (.ref W.rd) (PS W src base s) "step" f ∧ Keeps c f ∧ P f := ⟨_, mi_rd ok (.head _), keeps_ref (pk.cReader.d.meth _ _ (.tail _ (.head _))).2.2, h⟩
theorem m_at (ok : POKs W src base) {P : Value → Prop} (h : P (.ref (pk.ma 143 2))) : ∃ f, MethIs c k (.ref W.rd) (PS W src base s) "at" f ∧ Keeps c f ∧ P f := ⟨_, mi_rd ok (.tail _ (.head _)), keeps_ref (pk.cReader.d.meth _ _ (.tail _ (.tail _ (.head _)))).2.2, h⟩
theorem m_rdskip (ok : POKs W src base) {P : Value → Prop} (h : P (.ref (pk.ma 143 3))) : ∃ f, MethIs c k (.ref W.rd) (PS W src base s) "skip" f ∧ Keeps c f ∧ P f := ⟨_, mi_rd ok (.tail _ (.tail _ (.head _))), keeps_ref (pk.cReader.d.meth _ _ (.tail _ (.tail _ (.tail _ (.head _))))).2.2, h⟩
theorem m_expect (ok : POKs W src base) {P : Value → Prop} (h : P (.ref (pk.ma 143 4))) : ∃ f, MethIs c k (.ref W.rd) (PS W src base s) "expect" f ∧ Keeps c f ∧ P f := ⟨_, mi_rd ok (.tail _ (.tail _ (.tail _ (.head _)))), keeps_ref (pk.cReader.d.meth _ _ (.tail _ (.tail _ (.tail _ (.tail _ (.head _)))))).2.2, h⟩
theorem m_rdmark (ok : POKs W src base) {P : Value → Prop} (h : P (.ref (pk.ma 143 5))) : ∃ f, MethIs c k (.ref W.rd) (PS W src base s) "mark" f ∧ Keeps c f ∧ P f := ⟨_, mi_rd ok (.tail _ (.tail _ (.tail _ (.tail _ (.head _))))), keeps_ref (pk.cReader.d.meth _ _ (.tail _ (.tail _ (.tail _ (.tail _ (.tail _ (.head _))))))).2.2, h⟩
theorem m_name (ok : POKs W src base) {P : Value → Prop} (h : P (.ref (pk.ma 143 6))) : ∃ f, MethIs c k (.ref W.rd) (PS W src base s) "name" f ∧ Keeps c f ∧ P f := ⟨_, mi_rd ok (.tail _ (.tail _ (.tail _ (.tail _ (.tail _ (.head _)))))), keeps_ref (pk.cReader.d.meth _ _ (.tail _ (.tail _ (.tail _ (.tail _ (.tail _ (.tail _ (.head _)))))))).2.2, h⟩
theorem m_ermark (ok : POKs W src base) {P : Value → Prop} (h : P (.ref (pk.ma 119 1))) : ∃ f, MethIs c k (.ref W.er) (PS W src base s) "mark" f ∧ Keeps c f ∧ P f := ⟨_, mi_er ok, keeps_ref (pk.cErrorList.d.meth _ _ (.tail _ (.head _))).2.2, h⟩
theorem uw_place (ok : POKs W src base) {v : Int} (p : Nat) (hv : v = p) {R : MH → Prop} (q : R (PS W src base { s with place := p })) : UW c k (setAttrW "place") [.ref W.sc, .int v] (PS W src base s) R := by
  subst hv
  refine uw_setattr pk.cScanner.d (ps_at ok ok.sc) (ps_scd ok) (show ("place" : Str) ∈ (scfs W src s.place).map (·.1) from getF_mem sc_place) (by simp [scfs]) ?_
  rw [sc_set, ps_setscd ok]; exact q
theorem uw_token (ok : POKs W src base) {t : MV} (ht : isTok t) {R : MH → Prop} (q : R (PS W src base { s with tok := t })) : UW c k (setAttrW "token") [.ref W.rd, t] (PS W src base s) R := by
  refine uw_setattr pk.cReader.d (ps_at ok ok.rd) (ps_rdd ok) (List.mem_of_getElem? (i := 10) rfl) rd_len ?_
  rw [rd_set ht, ps_setrdd ok]; exact q
end
section
variable {W : PAd} {src : Str} {base : MH} {s : PSt} {k : Nat} {Q : MV → MH → Prop}
noncomputable abbrev remB : List Stmt := fBody (metAt 130 4)
noncomputable abbrev remML (W : PAd) (bg : MV) (d : Int) : Loc := [("self", .ref W.sc), ("begun", bg), ("depth", .int d)]
theorem rem_next (ok : POKs W src base) {R : Fl → Loc → MH → Prop} {a b : Nat} {l : List Nat} (h : Rd src s.place (a :: b :: l)) (h1 : ¬ (⟨#[a, b]⟩ : Str) = "(*") (h2 : ¬ (⟨#[a, b]⟩ : Str) = "*)") (h0 : ¬ (⟨#[a, b]⟩ : Str) = "") {bg : MV}
    (q : WW c (k + 2) (fScope (metAt 130 4)) (whT (stA remB 3)) (whB (stA remB 3)) (remML W bg 1) (PS W src base { s with place := s.place + 1 }) R) :
    WW c (k + 2) (fScope (metAt 130 4)) (whT (stA remB 3)) (whB (stA remB 3)) (remML W bg 1) (PS W src base s) R := by
  refine ww_turn (tw_cmp ?_ (by with_unfolding_all rfl))
  trivial
  refine sw_cons ?_
  trivial
  refine ow_addstr ?_ ?_
  · rw [h.chr, h.next.chr, sizeLine_eq]; show 1 + 1 ≤ _; lia
  rw [h.chr, h.next.chr, show (⟨#[a]⟩ : Str) ++ (⟨#[b]⟩ : Str) = ⟨#[a, b]⟩ from rfl]
  trivial
  refine uw_place ok (s.place + 1) (by lia) ?_
  refine sw_nil (beh_next (sw_nil (beh_next (sw_nil ?_))))
  refine WW.loco (l := remML W bg 1) ?_ q
  repeat (first | exact lsub_nil | refine lsub_cons (by decreasing_trivial) ?_)
theorem rem_last (ok : POKs W src base) {R : Fl → Loc → MH → Prop} {l : List Nat} (h : Rd src s.place (42 :: 41 :: l)) {bg : MV}
    (q : ∀ ml, R .next ml (PS W src base { s with place := s.place + 2 })) :
    WW c (k + 2) (fScope (metAt 130 4)) (whT (stA remB 3)) (whB (stA remB 3)) (remML W bg 1) (PS W src base s) R := by
  refine ww_turn (tw_cmp ?_ (by with_unfolding_all rfl))
  trivial
  refine sw_cons ?_
  trivial
  refine ow_addstr ?_ ?_
  · rw [h.chr, h.next.chr, sizeLine_eq]; show 1 + 1 ≤ _; lia
  rw [h.chr, h.next.chr, show (⟨#[42]⟩ : Str) ++ (⟨#[41]⟩ : Str) = "*)" from rfl]
  trivial
  refine uw_place ok (s.place + 2) (by lia) ?_
  refine sw_nil (beh_next (sw_nil (beh_next (sw_nil ?_))))
  refine ww_turn (tw_cmp ?_ (by with_unfolding_all rfl))
  trivial
  exact q _
theorem remark_w (ok : POKs W src base) {l : List Nat} (h : Rd src s.place ([40, 42, 32, 45, 32, 42, 41] ++ l)) (q : Q .none (PS W src base { s with place := s.place + 7 })) : FW c (k + 3) (.ref (pk.ma 130 4)) [.ref W.sc] (PS W src base s) Q := by
  have h3 : Rd src (s.place + 2) (32 :: 45 :: 32 :: 42 :: 41 :: l) := h.next.next
  have h4 := h3.next
  have h5 := h4.next
  have h6 := h5.next
  refine fn_intro pk.mScanner_remark.d rfl ?_
  refine sw_cons ?_
  trivial
  refine uw_place ok (s.place + 2) (by lia) ?_
  refine sw_cons (s_while ?_)
  refine WW.loco (l := remML W (.int s.place) 1) ?_ ?_
  · repeat (first | exact lsub_nil | refine lsub_cons (by decreasing_trivial) ?_)
  have nn : ∀ a b : Nat, ¬ (⟨#[a, b]⟩ : Str) = "" := fun a b e => by have := congrArg (fun x : Str => x.cps.size) e; cases this
  refine rem_next ok h3 (by decide) (by decide) (nn _ _) ?_
  refine rem_next ok h4 (by decide) (by decide) (nn _ _) ?_
  refine rem_next ok h5 (by decide) (by decide) (nn _ _) ?_
  refine rem_last ok h6 fun ml => ?_
  trivial
  exact q
end
inductive Stop : List Nat → Prop
  | nil : Stop []
  | one (a : Nat) : 32 < a → Stop [a]
  | cons (a b : Nat) (l : List Nat) : 32 < a → ¬ (a = 40 ∧ b = 42) → Stop (a :: b :: l)
section
variable {W : PAd} {src : Str} {base : MH} {s : PSt} {k : Nat} {Q : MV → MH → Prop}
noncomputable abbrev skB : List Stmt := fBody (metAt 130 3)
noncomputable abbrev skML (W : PAd) : Loc := [("self", .ref W.sc)]
theorem one_eq {a b : Nat} : ((⟨#[a]⟩ : Str) = ⟨#[b]⟩) ↔ a = b := ⟨fun e => by injection e with e; simpa using e, fun e => by rw [e]⟩
theorem one_ne {a : Nat} : ¬ (⟨#[a]⟩ : Str) = "" := fun e => by have := congrArg (fun x : Str => x.cps.size) e; cases this
theorem sk_space (ok : POKs W src base) {R : Fl → Loc → MH → Prop} {a : Nat} {l : List Nat} (h : Rd src s.place (a :: l)) (ha : a ≤ 32)
    (q : WW c (k + 4) (fScope (metAt 130 3)) (whT (stA skB 0)) (whB (stA skB 0)) (skML W) (PS W src base { s with place := s.place + 1 }) R) :
    WW c (k + 4) (fScope (metAt 130 3)) (whT (stA skB 0)) (whB (stA skB 0)) (skML W) (PS W src base s) R := by
  refine ww_turn ?_
  refine tw_val (ew_bool ⟨_, rfl, ?_⟩)
  refine if_t ?_
  refine sw_cons ?_
  trivial
  rw [h.chr]
  refine if_df (fun e => by have := one_eq.mp (show (⟨#[a]⟩ : Str) = ⟨#[40]⟩ from e); lia) ?_
  refine if_f ?_
  refine sw_cons ?_
  trivial
  (try (refine if_dt one_ne ?_; trivial))
  refine ew_callB pk.bord rfl keeps_bi (by decide) ?_
  trivial
  refine cw_ord ?_
  trivial
  refine uw_place ok (s.place + 1) (by lia) ?_
  refine sw_nil (beh_next (sw_nil (beh_next (sw_nil ?_))))
  refine WW.loco (l := skML W) ?_ q
  repeat (first | exact lsub_nil | refine lsub_cons (by decreasing_trivial) ?_)
theorem sk_rem (ok : POKs W src base) {R : Fl → Loc → MH → Prop} {l : List Nat} (h : Rd src s.place ([40, 42, 32, 45, 32, 42, 41] ++ l))
    (q : WW c (k + 4) (fScope (metAt 130 3)) (whT (stA skB 0)) (whB (stA skB 0)) (skML W) (PS W src base { s with place := s.place + 7 }) R) :
    WW c (k + 4) (fScope (metAt 130 3)) (whT (stA skB 0)) (whB (stA skB 0)) (skML W) (PS W src base s) R := by
  have h1 : Rd src s.place (40 :: 42 :: 32 :: 45 :: 32 :: 42 :: 41 :: l) := h
  refine ww_turn ?_
  refine tw_val (ew_bool ⟨_, rfl, ?_⟩)
  refine if_t ?_
  refine sw_cons ?_
  trivial
  rw [h1.chr]
  (try (refine if_dt rfl ?_; trivial))
  rw [h1.next.chr]
  (try (refine if_dt rfl ?_; trivial))
  refine FW.cw (remark_w ok h ?_)
  refine beh_next (sw_nil (beh_next (sw_nil ?_)))
  refine WW.loco (l := skML W) ?_ q
  repeat (first | exact lsub_nil | refine lsub_cons (by decreasing_trivial) ?_)
theorem sk_end (ok : POKs W src base) {R : Fl → Loc → MH → Prop} {l : List Nat} (h : Rd src s.place l) (hs : Stop l)
    (q : ∀ ml, R (.ret .none) ml (PS W src base s)) :
    WW c (k + 4) (fScope (metAt 130 3)) (whT (stA skB 0)) (whB (stA skB 0)) (skML W) (PS W src base s) R := by
  refine ww_turn ?_
  refine tw_val (ew_bool ⟨_, rfl, ?_⟩)
  refine if_t ?_
  refine sw_cons ?_
  trivial
  cases hs with
  | nil =>
    rw [h.chr0, show (⟨#[]⟩ : Str) = "" from rfl]
    trivial
    exact q _
  | one a ha =>
    rw [h.chr]
    refine if_d (fun e => ?_) (fun e => ?_)
    · trivial
      rw [h.next.chr0, show (⟨#[]⟩ : Str) = "" from rfl]
      trivial
      (try (refine if_dt one_ne ?_; trivial))
      refine ew_callB pk.bord rfl keeps_bi (by decide) ?_
      trivial
      refine cw_ord ?_
      trivial
      exact q _
    · refine if_f (sw_cons ?_)
      trivial
      (try (refine if_dt one_ne ?_; trivial))
      refine ew_callB pk.bord rfl keeps_bi (by decide) ?_
      trivial
      refine cw_ord ?_
      trivial
      exact q _
  | cons a b l ha hab =>
    rw [h.chr]
    refine if_d (fun e => ?_) (fun e => ?_)
    · have h40 := one_eq.mp (show (⟨#[a]⟩ : Str) = ⟨#[40]⟩ from e)
      trivial
      rw [h.next.chr]
      refine if_df (fun e => hab ⟨h40, one_eq.mp (show (⟨#[b]⟩ : Str) = ⟨#[42]⟩ from e)⟩) ?_
      refine sw_cons ?_
      trivial
      (try (refine if_dt one_ne ?_; trivial))
      refine ew_callB pk.bord rfl keeps_bi (by decide) ?_
      trivial
      refine cw_ord ?_
      trivial
      exact q _
    · refine if_f (sw_cons ?_)
      trivial
      (try (refine if_dt one_ne ?_; trivial))
      refine ew_callB pk.bord rfl keeps_bi (by decide) ?_
      trivial
      refine cw_ord ?_
      trivial
      exact q _
theorem skip0_w (ok : POKs W src base) {l : List Nat} (h : Rd src s.place l) (hs : Stop l) (q : Q .none (PS W src base s)) : FW c (k + 5) (.ref (pk.ma 130 3)) [.ref W.sc] (PS W src base s) Q := by
  refine fn_intro pk.mScanner_skip.d rfl ?_
  refine sw_cons (s_while ?_)
  exact sk_end ok h hs fun _ => q
theorem skip_w (ok : POKs W src base) {i : Nat} {l : List Nat} (h : Rd src s.place ((sepAt i).cps.toList ++ l)) (hs : Stop l) (q : Q .none (PS W src base { s with place := s.place + (sepAt i).length })) : FW c (k + 5) (.ref (pk.ma 130 3)) [.ref W.sc] (PS W src base s) Q := by
  refine fn_intro pk.mScanner_skip.d rfl ?_
  refine sw_cons (s_while ?_)
  match i with
  | 0 =>
    have h1 : Rd src s.place (32 :: l) := h
    exact sk_space ok h1 (by decide) (sk_end ok h1.next hs fun _ => q)
  | 1 =>
    have h1 : Rd src s.place (10 :: l) := h
    exact sk_space ok h1 (by decide) (sk_end ok h1.next hs fun _ => q)
  | 2 =>
    have h1 : Rd src s.place (32 :: ([40, 42, 32, 45, 32, 42, 41] ++ (32 :: l))) := h
    have h2 : Rd src (s.place + 1 + 7) (32 :: l) := Rd.app (w := [40, 42, 32, 45, 32, 42, 41]) h1.next
    exact sk_space ok h1 (by decide) (sk_rem ok h1.next (sk_space ok h2 (by decide) (sk_end ok h2.next hs fun _ => q)))
  | n + 3 =>
    have h1 : Rd src s.place (32 :: 32 :: l) := h
    exact sk_space ok h1 (by decide) (sk_space ok h1.next (by decide) (sk_end ok h1.next.next hs fun _ => q))
end
section
variable {W : PAd} {src : Str} {base : MH} {s : PSt} {k : Nat} {Q : MV → MH → Prop}
/-- an object under way -/
noncomputable def INI (σ : MH) (C x dx : Addr) (fs : List (Str × MV)) : MH := updH (updH σ dx (.ns fs)) x (.inst C dx)
theorem uw_ini {C : Addr} {names : List Str} {meths : List (Str × Addr)} (D : Cdef c C names meths) {σ : MH} {x dx : Addr} (hne : x ≠ dx) {name : Str} {fs fs' : List (Str × MV)} {v : MV} {R : MH → Prop} (hn : name ∈ names) (hl : fs.length ≤ 900) (he : putF name v fs = fs') (q : R (INI σ C x dx fs')) :
    UW c k (setAttrW name) [.ref x, v] (INI σ C x dx fs) R := by
  subst he
  refine uw_setattr D (updH_same ..) (by unfold INI; rw [updH_ne (Ne.symm hne)]; exact updH_same ..) hn hl ?_
  unfold INI at q ⊢
  rw [updH_comm hne, updH_updH]; exact q
theorem token_w {σ : MH} {kind : Str} {v : MV} {p : Int} (q : Q (tkV kind v p) σ) : CW c (k + 2) (.ref (pk.ca 123)) [.str kind, v, .int p] σ Q := by
  refine cw_classF pk.cToken.d (.head _) fun x dx hx hd hne => ?_
  show FW c (k + 1) _ _ (INI σ (pk.ca 123) x dx []) _
  refine fn_intro pk.mToken_init.d rfl ?_
  refine sw_cons ?_
  trivial
  refine uw_ini pk.cToken.d hne (.head _) (Nat.zero_le _) rfl ?_
  trivial
  refine uw_ini pk.cToken.d hne (.tail _ (.head _)) (Nat.le_of_ble_eq_true rfl) (by decreasing_trivial) ?_
  trivial
  refine uw_ini pk.cToken.d hne (.tail _ (.tail _ (.head _))) (Nat.le_of_ble_eq_true rfl) (by decreasing_trivial) ?_
  trivial
  exact ⟨_, rfl, q⟩
theorem node_w {σ : MH} {op : Str} {p : Int} {t : MV} {kids : List MV} {v : MV} (q : Q (ND op p t kids v) σ) : CW c (k + 2) (.ref (pk.ca 2)) [.str op, .int p, t, .flist kids, v] σ Q := by
  refine cw_classF pk.cNode.d (.head _) fun x dx hx hd hne => ?_
  show FW c (k + 1) _ _ (INI σ (pk.ca 2) x dx []) _
  refine fn_intro pk.mNode_initF.d rfl ?_
  refine sw_cons ?_
  trivial
  refine uw_ini pk.cNode.d hne (.head _) (Nat.zero_le _) rfl ?_
  trivial
  refine uw_ini pk.cNode.d hne (.tail _ (.head _)) (Nat.le_of_ble_eq_true rfl) (by decreasing_trivial) ?_
  trivial
  refine uw_ini pk.cNode.d hne (.tail _ (.tail _ (.head _))) (Nat.le_of_ble_eq_true rfl) (by decreasing_trivial) ?_
  trivial
  refine uw_ini pk.cNode.d hne (.tail _ (.tail _ (.tail _ (.head _)))) (Nat.le_of_ble_eq_true rfl) (by decreasing_trivial) ?_
  trivial
  refine uw_ini pk.cNode.d hne (.tail _ (.tail _ (.tail _ (.tail _ (.head _))))) (Nat.le_of_ble_eq_true rfl) (by decreasing_trivial) ?_
  trivial
  refine uw_ini pk.cNode.d hne (.tail _ (.tail _ (.tail _ (.tail _ (.tail _ (.head _)))))) (Nat.le_of_ble_eq_true rfl) (by decreasing_trivial) ?_
  trivial
  exact ⟨_, rfl, q⟩
end
/-- what stands behind a word -/
inductive Fol : List Nat → Prop
  | nil : Fol []
  | sp (l : List Nat) : Fol (32 :: l)
  | nl (l : List Nat) : Fol (10 :: l)
section
variable {W : PAd} {src : Str} {base : MH} {s : PSt} {k : Nat} {Q : MV → MH → Prop}
theorem fol_chr {p : Nat} {l : List Nat} (h : Rd src p l) (f : Fol l) : chr src p = "" ∨ chr src p = " " ∨ chr src p = "\n" := by
  cases f with
  | nil => exact .inl h.chr0
  | sp => exact .inr (.inl h.chr)
  | nl => exact .inr (.inr h.chr)
theorem fol_let {p : Nat} {l : List Nat} (h : Rd src p l) (f : Fol l) : isLet (chr src p) = false ∧ isDig (chr src p) = false ∧ isHex (chr src p) = false := by
  rcases fol_chr h f with e | e | e <;> (rw [e]; decide +kernel)
noncomputable abbrev woB : List Stmt := fBody (metAt 130 5)
noncomputable abbrev woML (W : PAd) (bg e : Int) : Loc := [("self", .ref W.sc), ("begun", .int bg), ("end", .int e)]
theorem word_loop (ok : POKs W src base) {R : Fl → Loc → MH → Prop} {bg : Int} {l : List Nat} (f : Fol l) : ∀ (w : List Nat) (p : Nat), (∀ a ∈ w, isLet ⟨#[a]⟩ = true) → Rd src p (w ++ l) → R .next (woML W bg (p + w.length : Nat)) (PS W src base s) →
    WW c (k + 2) (fScope (metAt 130 5)) (whT (stA woB 1)) (whB (stA woB 1)) (woML W bg p) (PS W src base s) R
  | [], p, _, h, q => by
    obtain ⟨f1, f2, _⟩ := fol_let h f
    refine ww_turn (tw_or ?_)
    trivial
    refine ew_callG pk.fisletter.g pk.fisletter.k ?_
    trivial
    refine ⟨src, p, p + 1, rfl, rfl, by congr 1, by lia, src_line ok, ?_⟩
    trivial
    refine FW.cw (letter_w ?_)
    refine ⟨_, rfl, ?_⟩
    rw [show isLet (cut src p (p + 1)) = false from f1]
    trivial
    refine ew_callG pk.fisdigit.g pk.fisdigit.k ?_
    trivial
    refine ⟨src, p, p + 1, rfl, rfl, by congr 1, by lia, src_line ok, ?_⟩
    trivial
    refine FW.cw (digit_w ?_)
    refine ⟨_, rfl, ?_⟩
    rw [show isDig (cut src p (p + 1)) = false from f2]
    trivial
    exact q
  | a :: w, p, hw, h, q => by
    have h1 : Rd src p (a :: (w ++ l)) := h
    refine ww_turn (tw_or ?_)
    trivial
    refine ew_callG pk.fisletter.g pk.fisletter.k ?_
    trivial
    refine ⟨src, p, p + 1, rfl, rfl, by congr 1, by lia, src_line ok, ?_⟩
    trivial
    refine FW.cw (letter_w ?_)
    refine ⟨_, rfl, ?_⟩
    rw [show cut src p (p + 1) = ⟨#[a]⟩ from h1.chr, hw a (.head _)]
    refine if_t ?_
    refine if_t ?_
    refine sw_cons ?_
    trivial
    refine WW.loco (l := woML W bg (p + 1 : Nat)) ?_ (word_loop ok f w (p + 1) (fun x hx => hw x (.tail _ hx)) h1.next ?_)
    · repeat (first | exact lsub_nil | refine lsub_cons (by decreasing_trivial) ?_)
    · rw [show p + 1 + w.length = p + (a :: w).length from by simp; lia]; exact q
theorem word_w (ok : POKs W src base) {w l : List Nat} (hw : ∀ a ∈ w, isLet ⟨#[a]⟩ = true) (f : Fol l) (h : Rd src s.place (w ++ l))
    (q : Q (tkV (if (⟨w.toArray⟩ : Str) ∈ kwL then ⟨w.toArray⟩ else "ident") (if (⟨w.toArray⟩ : Str) ∈ kwL then .str "" else .str ⟨w.toArray⟩) s.place) (PS W src base { s with place := s.place + w.length })) :
    FW c (k + 3) (.ref (pk.ma 130 5)) [.ref W.sc, .int s.place] (PS W src base s) Q := by
  refine fn_intro pk.mScanner_word.d rfl ?_
  refine sw_cons ?_
  trivial
  refine s_while ?_
  refine WW.loco (l := woML W s.place s.place) ?_ (word_loop ok f w s.place hw h ?_)
  · repeat (first | exact lsub_nil | refine lsub_cons (by decreasing_trivial) ?_)
  trivial
  refine uw_place ok (s.place + w.length) rfl ?_
  trivial
  refine ⟨src, s.place, s.place + w.length, rfl, rfl, rfl, by lia, src_line ok, ?_⟩
  rw [h.cut]
  trivial
  show (if decide ((⟨w.toArray⟩ : Str) ∈ kwL) = true then _ else _)
  refine if_d (fun h => ?_) (fun h => ?_)
  · trivial
    refine ew_callG pk.cToken.g pk.cToken.k ?_
    trivial
    refine token_w ?_
    trivial
    rw [if_pos h, if_pos h] at q
    exact q
  · trivial
    refine ew_callG pk.cToken.g pk.cToken.k ?_
    trivial
    refine token_w ?_
    trivial
    rw [if_neg h, if_neg h] at q
    exact q
end
theorem delH_updH {σ : MH} {a : Addr} {o : MO} (h : σ a = none) : delH (updH σ a o) a = σ := by
  funext b
  unfold delH updH
  by_cases hb : b = a
  · subst hb; simp [h]
  · simp [hb]
noncomputable def dval (v : Int) (ds : List Nat) : Int := ds.foldl (fun (v : Int) (d : Nat) => v * 10 + ((d : Int) - 48)) v
noncomputable def bnd : Nat → Int
  | 0 => 1000
  | 1 => 100
  | 2 => 10
  | _ => 1
theorem find_dig {d : Nat} (h1 : 48 ≤ d) (h2 : d ≤ 57) : Txt.find ("0123456789ABCDEF" : Str) ⟨#[d]⟩ = (d : Int) - 48 := by
  have : ∀ d < 58, 48 ≤ d → Txt.find ("0123456789ABCDEF" : Str) ⟨#[d]⟩ = (d : Int) - 48 := by decide +kernel
  exact this d (by lia) h1
section
variable {W : PAd} {src : Str} {base : MH} {s : PSt} {k : Nat} {Q : MV → MH → Prop}
noncomputable abbrev dvB : List Stmt := fBody (topAt 129)
noncomputable abbrev dvML (x : Str) (v : Int) : Loc := [("digits", .str x), ("base", .int 10), ("most", .int 2147483647), ("value", .int v)]
theorem dv_loop {σ : MH} {R : Fl → Loc → MH → Prop} {x : Str} {it : Addr} (hit : σ it = none) {pos : Pos} : ∀ (ds : List Nat) (i : Nat) (v : Int), x.cps.toList.drop i = ds → (∀ d ∈ ds, 48 ≤ d ∧ d ≤ 57) → 0 ≤ v → ds.length ≤ 3 → v < bnd ds.length → R .next (dvML x (dval v ds)) σ →
    FOR c (k + 1) (fScope (topAt 129)) (.Name "digit" pos) it (foB (stA dvB 1)) (dvML x v) (updH σ it (.siter x i)) R
  | [], i, v, h, _, h0, hl, hv, q => by
    have hx : x.cps[i]? = none := by rw [← Array.getElem?_toList, List.getElem?_eq_none]; exact List.drop_eq_nil_iff.mp h
    refine for_end (nx_strend (updH_same ..) hx) ?_
    rw [delH_updH hit]; exact q
  | d :: ds, i, v, h, hd, h0, hl, hv, q => by
    have hx : x.cps[i]? = some d := by
      rw [← Array.getElem?_toList]
      have := congrArg (fun l => l[0]?) h
      simpa using this
    obtain ⟨d1, d2⟩ := hd d (.head _)
    have hl2 : ds.length ≤ 2 := by simp at hl; lia
    have hv2 : v * 10 + ((d : Int) - 48) < bnd ds.length ∧ bnd ds.length ≤ 1000 := by
      rw [List.length_cons] at hv
      match ds.length, hl2, hv with
      | 0, _, hv => have hv : v < 100 := hv; exact ⟨by show _ < (1000 : Int); lia, by decide⟩
      | 1, _, hv => have hv : v < 10 := hv; exact ⟨by show _ < (100 : Int); lia, by decide⟩
      | 2, _, hv => have hv : v < 1 := hv; exact ⟨by show _ < (10 : Int); lia, by decide⟩
    refine for_item (nx_str (updH_same ..) hx) (lg_name rfl) (aw_name ?_)
    rw [updH_updH]
    refine sw_cons ?_
    trivial
    refine ow_mul (IntMulOk.of_right (by decide)) ?_
    trivial
    refine ⟨_, mi_find, keeps_bi, ?_⟩
    trivial
    refine cw_find ?_
    rw [find_dig d1 d2]
    trivial
    refine FOR.loco (l := dvML x (v * 10 + ((d : Int) - 48))) ?_ (dv_loop hit ds (i + 1) _ ?_ (fun y hy => hd y (.tail _ hy)) (by lia) (by simp at hl; lia) hv2.1 q)
    · repeat (first | exact lsub_nil | refine lsub_cons (by decreasing_trivial) ?_)
    · rw [← List.drop_drop, h]; rfl
theorem dv_w {σ : MH} {ds : List Nat} (hd : ∀ d ∈ ds, 48 ≤ d ∧ d ≤ 57) (hl : ds.length ≤ 3) (q : Q (.int (dval 0 ds)) σ) : FW c (k + 2) (.ref (pk.fa 129)) [.str ⟨ds.toArray⟩, .int 10, .int 2147483647] σ Q := by
  refine fn_intro pk.fdigitsvalue.d rfl ?_
  refine sw_cons ?_
  trivial
  refine s_for ?_
  trivial
  refine it_str (by simp; intro d h; have := hd d h; lia) fun it hit => ?_
  refine FOR.loco (l := dvML ⟨ds.toArray⟩ 0) ?_ (dv_loop hit ds 0 0 (by simp) hd (by lia) hl ?_ ?_)
  · repeat (first | exact lsub_nil | refine lsub_cons (by decreasing_trivial) ?_)
  · match ds.length, hl with
    | 0, _ => decide
    | 1, _ => decide
    | 2, _ => decide
    | 3, _ => decide
  trivial
  exact q
theorem whole_w (ok : POKs W src base) {bg v : Int} (hv : v ≤ 2147483647) (q : Q (tkV "int" (.int v) bg) (PS W src base s)) : FW c (k + 3) (.ref (pk.ma 130 7)) [.ref W.sc, .int bg, .int v, .int 2147483647] (PS W src base s) Q := by
  refine fn_intro pk.mScanner_whole.d rfl ?_
  refine sw_cons ?_
  trivial
  refine ew_callG pk.cToken.g pk.cToken.k ?_
  trivial
  refine token_w ?_
  trivial
  exact q
end
section
variable {W : PAd} {src : Str} {base : MH} {s : PSt} {k : Nat} {Q : MV → MH → Prop}
noncomputable abbrev nuB : List Stmt := fBody (metAt 130 6)
theorem dig_hex {x : Str} (h : isDig x = true) : isHex x = true := by unfold isHex; rw [h]; rfl
theorem hex_loop (ok : POKs W src base) {R : Fl → Loc → MH → Prop} {bg : Int} {l : List Nat} (f : Fol l) : ∀ (w : List Nat) (p : Nat), (∀ a ∈ w, isDig ⟨#[a]⟩ = true) → Rd src p (w ++ l) → R .next (woML W bg (p + w.length : Nat)) (PS W src base s) →
    WW c (k + 2) (fScope (metAt 130 6)) (whT (stA nuB 1)) (whB (stA nuB 1)) (woML W bg p) (PS W src base s) R
  | [], p, _, h, q => by
    obtain ⟨_, _, f3⟩ := fol_let h f
    refine ww_turn (tw_val ?_)
    trivial
    refine ew_callG pk.fishexdigit.g pk.fishexdigit.k ?_
    trivial
    refine ⟨src, p, p + 1, rfl, rfl, by congr 1, by lia, src_line ok, ?_⟩
    trivial
    refine FW.cw (hex_w ?_)
    refine ⟨_, rfl, ?_⟩
    rw [show isHex (cut src p (p + 1)) = false from f3]
    trivial
    exact q
  | a :: w, p, hw, h, q => by
    have h1 : Rd src p (a :: (w ++ l)) := h
    refine ww_turn (tw_val ?_)
    trivial
    refine ew_callG pk.fishexdigit.g pk.fishexdigit.k ?_
    trivial
    refine ⟨src, p, p + 1, rfl, rfl, by congr 1, by lia, src_line ok, ?_⟩
    trivial
    refine FW.cw (hex_w ?_)
    refine ⟨_, rfl, ?_⟩
    rw [show cut src p (p + 1) = ⟨#[a]⟩ from h1.chr, dig_hex (hw a (.head _))]
    refine if_t ?_
    refine sw_cons ?_
    trivial
    refine WW.loco (l := woML W bg (p + 1 : Nat)) ?_ (hex_loop ok f w (p + 1) (fun x hx => hw x (.tail _ hx)) h1.next ?_)
    · repeat (first | exact lsub_nil | refine lsub_cons (by decreasing_trivial) ?_)
    · rw [show p + 1 + w.length = p + (a :: w).length from by simp; lia]; exact q
theorem dig_loop (ok : POKs W src base) {R : Fl → Loc → MH → Prop} {bg : Int} {l : List Nat} (f : Fol l) : ∀ (w : List Nat) (p : Nat), (∀ a ∈ w, isDig ⟨#[a]⟩ = true) → Rd src p (w ++ l) → R .next (woML W bg (p + w.length : Nat)) (PS W src base s) →
    WW c (k + 2) (fScope (metAt 130 6)) (whT (stA nuB 6)) (whB (stA nuB 6)) (woML W bg p) (PS W src base s) R
  | [], p, _, h, q => by
    obtain ⟨_, f2, _⟩ := fol_let h f
    refine ww_turn (tw_val ?_)
    trivial
    refine ew_callG pk.fisdigit.g pk.fisdigit.k ?_
    trivial
    refine ⟨src, p, p + 1, rfl, rfl, by congr 1, by lia, src_line ok, ?_⟩
    trivial
    refine FW.cw (digit_w ?_)
    refine ⟨_, rfl, ?_⟩
    rw [show isDig (cut src p (p + 1)) = false from f2]
    trivial
    exact q
  | a :: w, p, hw, h, q => by
    have h1 : Rd src p (a :: (w ++ l)) := h
    refine ww_turn (tw_val ?_)
    trivial
    refine ew_callG pk.fisdigit.g pk.fisdigit.k ?_
    trivial
    refine ⟨src, p, p + 1, rfl, rfl, by congr 1, by lia, src_line ok, ?_⟩
    trivial
    refine FW.cw (digit_w ?_)
    refine ⟨_, rfl, ?_⟩
    rw [show cut src p (p + 1) = ⟨#[a]⟩ from h1.chr, hw a (.head _)]
    refine if_t ?_
    refine sw_cons ?_
    trivial
    refine WW.loco (l := woML W bg (p + 1 : Nat)) ?_ (dig_loop ok f w (p + 1) (fun x hx => hw x (.tail _ hx)) h1.next ?_)
    · repeat (first | exact lsub_nil | refine lsub_cons (by decreasing_trivial) ?_)
    · rw [show p + 1 + w.length = p + (a :: w).length from by simp; lia]; exact q
theorem numeral_w (ok : POKs W src base) {w l : List Nat} (hw : ∀ a ∈ w, 48 ≤ a ∧ a ≤ 57) (hl : w.length ≤ 3) (f : Fol l) (h : Rd src s.place (w ++ l)) (hv : dval 0 w ≤ 2147483647)
    (q : Q (tkV "int" (.int (dval 0 w)) s.place) (PS W src base { s with place := s.place + w.length })) :
    FW c (k + 4) (.ref (pk.ma 130 6)) [.ref W.sc, .int s.place] (PS W src base s) Q := by
  have hdig : ∀ a ∈ w, isDig ⟨#[a]⟩ = true := fun a ha => by
    have : ∀ a < 58, 48 ≤ a → isDig ⟨#[a]⟩ = true := by decide +kernel
    obtain ⟨h1, h2⟩ := hw a ha
    exact this a (by lia) h1
  have hr := h.app
  have hf := fol_chr hr f
  refine fn_intro pk.mScanner_numeral.d rfl ?_
  refine sw_cons ?_
  trivial
  refine s_while ?_
  refine WW.loco (l := woML W s.place s.place) ?_ (hex_loop ok f w s.place hdig h ?_)
  · repeat (first | exact lsub_nil | refine lsub_cons (by decreasing_trivial) ?_)
  trivial
  refine ⟨src, s.place, s.place + w.length, rfl, rfl, rfl, by lia, src_line ok, ?_⟩
  trivial
  refine ⟨src, s.place + w.length, s.place + w.length + 1, rfl, rfl, by congr 1, by lia, src_line ok, ?_⟩
  rw [show cut src (s.place + w.length) (s.place + w.length + 1) = chr src (s.place + w.length) from rfl]
  trivial
  have hne : ∀ y : Str, ¬ (y = "" ∨ y = " " ∨ y = "\n") → ¬ chr src (s.place + w.length) = y := fun y hy e => hy (by rw [← e]; exact hf)
  (try (refine if_df (hne _ (by decide +kernel)) ?_; trivial))
  (try (refine if_df (hne _ (by decide +kernel)) ?_; trivial))
  refine s_while ?_
  refine WW.loco (l := woML W s.place s.place) ?_ (dig_loop ok f w s.place hdig h ?_)
  · repeat (first | exact lsub_nil | refine lsub_cons (by decreasing_trivial) ?_)
  trivial
  refine uw_place ok (s.place + w.length) rfl ?_
  trivial
  (try (refine if_df (hne _ (by decide +kernel)) ?_; trivial))
  refine ew_callG pk.fdigitsvalue.g pk.fdigitsvalue.k ?_
  trivial
  refine ⟨src, s.place, s.place + w.length, rfl, rfl, rfl, by lia, src_line ok, ?_⟩
  rw [h.cut]
  obtain ⟨t, gm⟩ := pk.gMOSTI
  trivial
  refine ew_nameI gm ?_
  trivial
  refine FW.cw (dv_w hw hl ?_)
  trivial
  refine ew_nameI gm ?_
  trivial
  refine FW.cw (whole_w ok hv ?_)
  trivial
  exact q
end
section
variable {W : PAd} {src : Str} {base : MH} {s : PSt} {k : Nat} {Q : MV → MH → Prop}
noncomputable def sy1 : List Nat := [43, 45, 42, 47, 126, 38, 40, 41, 61, 35, 60, 62]
theorem sym1_w (ok : POKs W src base) {a : Nat} {l : List Nat} (ha : a ∈ sy1) (f : Fol l) (h : Rd src s.place (a :: l)) (q : Q (.str ⟨#[a]⟩) (PS W src base s)) : FW c (k + 3) (.ref (pk.ma 130 13)) [.ref W.sc] (PS W src base s) Q := by
  have hf := fol_chr h.next f
  have hp : ∀ y : Str, y = "" ∨ y = " " ∨ y = "\n" → y.length ≤ 1 ∧ (⟨#[a]⟩ : Str) ++ y ∉ ([":=", "<=", ">=", ".."] : List Str) := by
    have : ∀ a ∈ sy1, ∀ y ∈ (["", " ", "\n"] : List Str), y.length ≤ 1 ∧ (⟨#[a]⟩ : Str) ++ y ∉ ([":=", "<=", ">=", ".."] : List Str) := by decide +kernel
    intro y hy
    exact this a ha y (by simpa using hy)
  have hin : a ∈ ("+-*/~&.,;|([{^=#<>:)]}" : Str).cps.toList := by
    have : ∀ a ∈ sy1, a ∈ ("+-*/~&.,;|([{^=#<>:)]}" : Str).cps.toList := by decide +kernel
    exact this a ha
  obtain ⟨h1, h2⟩ := hp _ hf
  refine fn_intro pk.mScanner_symbol.d rfl ?_
  refine sw_cons ?_
  trivial
  refine ow_addstr ?_ ?_
  · rw [h.chr, sizeLine_eq]; show 1 + _ ≤ _; lia
  rw [h.chr]
  trivial
  rw [h.chr]
  refine ow_instr1 ?_
  trivial
  rw [h.chr]
  exact q
theorem sym2_w (ok : POKs W src base) {a : Nat} {l : List Nat} (ha : a = 60 ∨ a = 62) (h : Rd src s.place (a :: 61 :: l)) (q : Q (.str ⟨#[a, 61]⟩) (PS W src base s)) : FW c (k + 3) (.ref (pk.ma 130 13)) [.ref W.sc] (PS W src base s) Q := by
  have h2 : (⟨#[a]⟩ : Str) ++ (⟨#[61]⟩ : Str) ∈ ([":=", "<=", ">=", ".."] : List Str) := by rcases ha with rfl | rfl <;> decide +kernel
  refine fn_intro pk.mScanner_symbol.d rfl ?_
  refine sw_cons ?_
  trivial
  refine ow_addstr ?_ ?_
  · rw [h.chr, h.next.chr, sizeLine_eq]; show 1 + 1 ≤ _; lia
  rw [h.chr, h.next.chr]
  trivial
  exact q
noncomputable abbrev taB : List Stmt := fBody (metAt 130 2)
theorem take_eof (ok : POKs W src base) (h : Rd src s.place []) (q : Q (tkV "eof" (.str "") s.place) (PS W src base s)) : FW c (k + 7) (.ref (pk.ma 130 2)) [.ref W.sc] (PS W src base s) Q := by
  refine fn_intro pk.mScanner_take.d rfl ?_
  refine sw_cons (s_while (ww_turn ?_))
  refine tw_val (ew_bool ⟨_, rfl, if_t (sw_cons ?_)⟩)
  trivial
  refine FW.cw (skip0_w ok h .nil ?_)
  trivial
  rw [h.chr0, show (⟨#[]⟩ : Str) = "" from rfl]
  trivial
  refine ew_callG pk.cToken.g pk.cToken.k ?_
  trivial
  refine token_w ?_
  trivial
  exact q
theorem take_word (ok : POKs W src base) {i a : Nat} {w l : List Nat} (hw : ∀ x ∈ a :: w, isLet ⟨#[x]⟩ = true) (f : Fol l) (hs : Stop (a :: w ++ l)) (h : Rd src s.place ((sepAt i).cps.toList ++ (a :: w ++ l)))
    (q : Q (tkV (if (⟨(a :: w).toArray⟩ : Str) ∈ kwL then ⟨(a :: w).toArray⟩ else "ident") (if (⟨(a :: w).toArray⟩ : Str) ∈ kwL then .str "" else .str ⟨(a :: w).toArray⟩) (s.place + (sepAt i).length : Nat)) (PS W src base { s with place := s.place + (sepAt i).length + (a :: w).length })) : FW c (k + 7) (.ref (pk.ma 130 2)) [.ref W.sc] (PS W src base s) Q := by
  have hr : Rd src (s.place + (sepAt i).length) (a :: w ++ l) := h.app
  have hc : Rd src (s.place + (sepAt i).length) (a :: (w ++ l)) := hr
  refine fn_intro pk.mScanner_take.d rfl ?_
  refine sw_cons (s_while (ww_turn ?_))
  refine tw_val (ew_bool ⟨_, rfl, if_t (sw_cons ?_)⟩)
  trivial
  refine FW.cw (skip_w ok h hs ?_)
  trivial
  rw [hc.chr]
  (try (refine if_df one_ne ?_; trivial))
  refine ew_callG pk.fisletter.g pk.fisletter.k ?_
  trivial
  refine FW.cw (letter_w ?_)
  refine ⟨_, rfl, ?_⟩
  rw [hw a (.head _)]
  trivial
  refine FW.cw (word_w (s := { s with place := s.place + (sepAt i).length }) ok hw f hr ?_)
  trivial
  exact q
end
section
variable {W : PAd} {src : Str} {base : MH} {s : PSt} {k : Nat} {Q : MV → MH → Prop}
theorem take_num (ok : POKs W src base) {i a : Nat} {w l : List Nat} (hw : ∀ x ∈ a :: w, 48 ≤ x ∧ x ≤ 57) (hl : (a :: w).length ≤ 3) (hv : dval 0 (a :: w) ≤ 2147483647) (f : Fol l) (hs : Stop (a :: w ++ l)) (h : Rd src s.place ((sepAt i).cps.toList ++ (a :: w ++ l)))
    (q : Q (tkV "int" (.int (dval 0 (a :: w))) (s.place + (sepAt i).length : Nat)) (PS W src base { s with place := s.place + (sepAt i).length + (a :: w).length })) : FW c (k + 7) (.ref (pk.ma 130 2)) [.ref W.sc] (PS W src base s) Q := by
  have hr : Rd src (s.place + (sepAt i).length) (a :: w ++ l) := h.app
  have hc : Rd src (s.place + (sepAt i).length) (a :: (w ++ l)) := hr
  obtain ⟨a1, a2⟩ := hw a (.head _)
  have hlet : isLet ⟨#[a]⟩ = false ∧ isDig ⟨#[a]⟩ = true := by
    have : ∀ a < 58, 48 ≤ a → isLet ⟨#[a]⟩ = false ∧ isDig ⟨#[a]⟩ = true := by decide +kernel
    exact this a (by lia) a1
  refine fn_intro pk.mScanner_take.d rfl ?_
  refine sw_cons (s_while (ww_turn ?_))
  refine tw_val (ew_bool ⟨_, rfl, if_t (sw_cons ?_)⟩)
  trivial
  refine FW.cw (skip_w ok h hs ?_)
  trivial
  rw [hc.chr]
  (try (refine if_df one_ne ?_; trivial))
  refine ew_callG pk.fisletter.g pk.fisletter.k ?_
  trivial
  refine FW.cw (letter_w ?_)
  refine ⟨_, rfl, ?_⟩
  rw [hlet.1]
  trivial
  refine ew_callG pk.fisdigit.g pk.fisdigit.k ?_
  trivial
  refine FW.cw (digit_w ?_)
  refine ⟨_, rfl, ?_⟩
  rw [hlet.2]
  trivial
  refine FW.cw (numeral_w (s := { s with place := s.place + (sepAt i).length }) ok hw hl f hr hv ?_)
  trivial
  exact q
theorem take_sym (ok : POKs W src base) {i a : Nat} {w l : List Nat} (ha : a ∈ sy1) (hw : w = [] ∧ Fol l ∨ w = [61] ∧ (a = 60 ∨ a = 62)) (hs : Stop (a :: w ++ l)) (h : Rd src s.place ((sepAt i).cps.toList ++ (a :: w ++ l)))
    (q : Q (tkV ⟨(a :: w).toArray⟩ (.str "") (s.place + (sepAt i).length : Nat)) (PS W src base { s with place := s.place + (sepAt i).length + (a :: w).length })) : FW c (k + 7) (.ref (pk.ma 130 2)) [.ref W.sc] (PS W src base s) Q := by
  have hr : Rd src (s.place + (sepAt i).length) (a :: w ++ l) := h.app
  have hc : Rd src (s.place + (sepAt i).length) (a :: (w ++ l)) := hr
  have hlet : isLet ⟨#[a]⟩ = false ∧ isDig ⟨#[a]⟩ = false ∧ ¬ (⟨#[a]⟩ : Str) = "\"" := by
    have : ∀ a ∈ sy1, isLet ⟨#[a]⟩ = false ∧ isDig ⟨#[a]⟩ = false ∧ ¬ (⟨#[a]⟩ : Str) = "\"" := by decide +kernel
    exact this a ha
  have hsy : ∀ {Q : MV → MH → Prop}, Q (.str ⟨(a :: w).toArray⟩) (PS W src base { s with place := s.place + (sepAt i).length }) → FW c (k + 6) (.ref (pk.ma 130 13)) [.ref W.sc] (PS W src base { s with place := s.place + (sepAt i).length }) Q := by
    intro Q q
    rcases hw with ⟨rfl, f⟩ | ⟨rfl, h60⟩
    · exact sym1_w ok ha f hc q
    · exact sym2_w ok h60 hc q
  have hne : ¬ (⟨(a :: w).toArray⟩ : Str) = "" := fun e => by have := congrArg (fun x : Str => x.cps.size) e; simp at this; cases this
  have hll : (⟨(a :: w).toArray⟩ : Str).length = (a :: w).length := by simp [Str.length]
  have hll2 : (a :: w).length ≤ 2 := by rcases hw with ⟨rfl, _⟩ | ⟨rfl, _⟩ <;> simp
  refine fn_intro pk.mScanner_take.d rfl ?_
  refine sw_cons (s_while (ww_turn ?_))
  refine tw_val (ew_bool ⟨_, rfl, if_t (sw_cons ?_)⟩)
  trivial
  refine FW.cw (skip_w ok h hs ?_)
  trivial
  rw [hc.chr]
  (try (refine if_df one_ne ?_; trivial))
  refine ew_callG pk.fisletter.g pk.fisletter.k ?_
  trivial
  refine FW.cw (letter_w ?_)
  refine ⟨_, rfl, ?_⟩
  rw [hlet.1]
  trivial
  refine ew_callG pk.fisdigit.g pk.fisdigit.k ?_
  trivial
  refine FW.cw (digit_w ?_)
  refine ⟨_, rfl, ?_⟩
  rw [hlet.2.1]
  trivial
  (try (refine if_df hlet.2.2 ?_; trivial))
  refine FW.cw (hsy ?_)
  trivial
  refine ew_callB pk.blen rfl keeps_bi (by decide) ?_
  trivial
  refine cw_lenstr (by lia) ?_
  trivial
  refine uw_place ok (s.place + (sepAt i).length + (a :: w).length) (by rw [hll]; rfl) ?_
  trivial
  refine ew_callG pk.cToken.g pk.cToken.k ?_
  trivial
  refine token_w ?_
  trivial
  exact q
end
section
variable {W : PAd} {src : Str} {base : MH} {s : PSt} {k : Nat} {Q : MV → MH → Prop}
theorem str_of {x : Str} {a : Nat} {w : List Nat} (h : x.cps.toList = a :: w) : (⟨(a :: w).toArray⟩ : Str) = x := by
  cases x; simp at h ⊢; rw [← h]
theorem str_len {x : Str} {a : Nat} {w : List Nat} (h : x.cps.toList = a :: w) : (a :: w).length = x.length := by
  unfold Str.length; rw [← h]; simp
theorem fol_stop {a : Nat} {w l : List Nat} (h1 : 32 < a) (h2 : a = 40 → w = []) (f : Fol l) : Stop (a :: w ++ l) := by
  cases w with
  | nil =>
    cases f with
    | nil => exact .one a h1
    | sp l => exact .cons a 32 l h1 (by lia)
    | nl l => exact .cons a 10 l h1 (by lia)
  | cons b w => exact .cons a b _ h1 (fun e => by cases h2 e.1)
theorem take_w (ok : POKs W src base) {i : Nat} {wd : Wd} {l : List Nat} (hw : WdOK wd) (f : Fol l) (h : Rd src s.place ((sepAt i).cps.toList ++ (wd.text.cps.toList ++ l)))
    (q : Q (tkV wd.kind wd.val (s.place + (sepAt i).length : Nat)) (PS W src base { s with place := s.place + (sepAt i).length + wd.text.length })) : FW c (k + 7) (.ref (pk.ma 130 2)) [.ref W.sc] (PS W src base s) Q := by
  cases hw with
  | id kd alt =>
    have hx : (∀ a ∈ (varNames kd alt).cps.toList, isLet ⟨#[a]⟩ = true ∧ 40 < a) ∧ varNames kd alt ∉ kwL ∧ (varNames kd alt).cps.toList ≠ [] := by
      cases kd <;> cases alt <;> decide +kernel
    obtain ⟨h1, h2, h3⟩ := hx
    change Rd src s.place ((sepAt i).cps.toList ++ ((varNames kd alt).cps.toList ++ l)) at h
    change Q (tkV "ident" (.str (varNames kd alt)) _) (PS W src base { s with place := s.place + (sepAt i).length + (varNames kd alt).length }) at q
    obtain ⟨a, w, e⟩ := List.exists_cons_of_ne_nil h3
    rw [e] at h h1
    refine take_word ok (fun x hx => (h1 x hx).1) f (fol_stop (by have := (h1 a (.head _)).2; lia) (fun e => by have := (h1 a (.head _)).2; lia) f) h ?_
    rw [str_of e, if_neg h2, if_neg h2, str_len e]; exact q
  | num n n1 n2 =>
    have hx : ∀ n : Nat, n ≤ 200 → (∀ a ∈ (Wd.num n).text.cps.toList, 48 ≤ a ∧ a ≤ 57) ∧ (Wd.num n).text.cps.toList.length ≤ 3 ∧ dval 0 (Wd.num n).text.cps.toList = n ∧ (Wd.num n).text.cps.toList ≠ [] := by decide +kernel
    obtain ⟨h1, h2, h4, h3⟩ := hx n n2
    obtain ⟨a, w, e⟩ := List.exists_cons_of_ne_nil h3
    rw [e] at h h1 h2 h4
    refine take_num ok h1 h2 (by rw [h4]; lia) f (fol_stop (by have := (h1 a (.head _)); lia) (fun e => by have := (h1 a (.head _)); lia) f) h ?_
    rw [h4, str_len e]; exact q
  | sym x hx =>
    change Rd src s.place ((sepAt i).cps.toList ++ (x.cps.toList ++ l)) at h
    change Q (tkV x (.str "") _) (PS W src base { s with place := s.place + (sepAt i).length + x.length }) at q
    have hx2 : ∀ x ∈ symNames, (x ∈ kwL ∧ (∀ a ∈ x.cps.toList, isLet ⟨#[a]⟩ = true ∧ 40 < a) ∧ x.cps.toList ≠ []) ∨ (∃ a ∈ sy1, 32 < a ∧ (x.cps.toList = [a] ∨ x.cps.toList = [a, 61] ∧ (a = 60 ∨ a = 62))) := by decide +kernel
    rcases hx2 x hx with ⟨h2, h1, h3⟩ | ⟨a, ha, ha2, e⟩
    · obtain ⟨a, w, e⟩ := List.exists_cons_of_ne_nil h3
      rw [e] at h h1
      refine take_word ok (fun x hx => (h1 x hx).1) f (fol_stop (by have := (h1 a (.head _)).2; lia) (fun e => by have := (h1 a (.head _)).2; lia) f) h ?_
      rw [str_of e, if_pos h2, if_pos h2, str_len e]; exact q
    · rcases e with e | ⟨e, h60⟩
      · rw [e] at h
        refine take_sym ok ha (w := []) (.inl ⟨rfl, f⟩) (fol_stop ha2 (fun _ => rfl) f) h ?_
        rw [str_of e, str_len e]; exact q
      · rw [e] at h
        refine take_sym ok ha (w := [61]) (l := l) (.inr ⟨rfl, h60⟩) (fol_stop ha2 (fun e => by lia) f) h ?_
        rw [str_of e, str_len e]; exact q
end
theorem toList_app (x y : Str) : (x ++ y).cps.toList = x.cps.toList ++ y.cps.toList := by
  show (x.cps ++ y.cps).toList = _
  simp
theorem str_tl (x : Str) : x.cps.toList.length = x.length := by simp [Str.length]
noncomputable def Ahead (src : Str) (p : Nat) (ts : List Tk) : Prop := ∃ y, Lay p ts y ∧ Rd src p y.cps.toList ∧ p + y.length = src.length
noncomputable def hk : List Tk → Str
  | [] => "eof"
  | t :: _ => t.w.kind
noncomputable def hv : List Tk → MV
  | [] => .str ""
  | t :: _ => t.w.val
noncomputable def hp (src : Str) : List Tk → Nat
  | [] => src.length
  | t :: _ => t.at'
theorem lay_fol {p : Nat} {ts : List Tk} {x : Str} (h : Lay p ts x) : Fol x.cps.toList := by
  cases h with
  | nil => exact .nil
  | @cons _ i t ts x hw hp hl =>
    rw [toList_app, toList_app, List.append_assoc]
    match i with
    | 0 => exact .sp _
    | 1 => exact .nl _
    | 2 => exact .sp _
    | n + 3 => exact .sp _
section
variable {W : PAd} {src : Str} {base : MH} {s : PSt} {k : Nat} {Q : MV → MH → Prop}
structure Cur (src : Str) (s : PSt) (ts : List Tk) : Prop where
  tok : s.tok = tkV (hk ts) (hv ts) (hp src ts)
  ahead : Ahead src s.place ts.tail
theorem Cur.isTok {ts : List Tk} (h : Cur src s ts) : isTok s.tok := by rw [h.tok]; exact isTok_tk
theorem x_rd_tokenC {ts : List Tk} (ok : POKs W src base) (h : Cur src s ts) {P : MV → Prop} (q : P s.tok) : ∃ r, GA c k (.ref W.rd) (PS W src base s) "token" r ∧ P r := x_rd_token ok h.isTok q
end
section
variable {W : PAd} {src : Str} {base : MH} {s : PSt} {k : Nat} {Q : MV → MH → Prop}
theorem take_a (ok : POKs W src base) {ts : List Tk} (h : Ahead src s.place ts) (q : ∀ p', Ahead src p' ts.tail → Q (tkV (hk ts) (hv ts) (hp src ts)) (PS W src base { s with place := p' })) : FW c (k + 7) (.ref (pk.ma 130 2)) [.ref W.sc] (PS W src base s) Q := by
  obtain ⟨y, hl, hr, he⟩ := h
  cases hl with
  | nil =>
    have e : s.place = src.length := by simpa [Str.length] using he
    refine take_eof ok hr ?_
    have := q s.place ⟨_, .nil, hr, he⟩
    unfold hk hv hp at this
    rw [← e] at this; exact this
  | @cons _ i t ts x hw hp' hl =>
    rw [toList_app, toList_app, List.append_assoc] at hr
    have h1 : Rd src (s.place + (sepAt i).length) (t.w.text.cps.toList ++ x.cps.toList) := by have := hr.app; rwa [str_tl] at this
    have h2 : Rd src (s.place + (sepAt i).length + t.w.text.length) x.cps.toList := by have := h1.app; rwa [str_tl] at this
    refine take_w ok hw (lay_fol hl) hr ?_
    have := q (s.place + (sepAt i).length + t.w.text.length) ⟨x, by rw [← hp']; exact hl, h2, by rw [str_len_app, str_len_app] at he; lia⟩
    rw [show hp src (t :: ts) = s.place + (sepAt i).length from hp'] at this
    exact this
theorem step_w (ok : POKs W src base) {t : Tk} {ts : List Tk} (h : Cur src s (t :: ts)) (q : ∀ s', Cur src s' ts → s'.rows = s.rows → s'.ps = s.ps → Q (tkV t.w.kind t.w.val t.at') (PS W src base s')) : FW c (k + 8) (.ref (pk.ma 143 1)) [.ref W.rd] (PS W src base s) Q := by
  refine fn_intro pk.mReader_step.d rfl ?_
  refine sw_cons ?_
  trivial
  refine FW.cw (take_a ok h.ahead fun p' ha => ?_)
  trivial
  refine uw_token ok isTok_tk ?_
  trivial
  rw [h.tok]
  exact q ⟨p', _, s.rows, s.ps⟩ ⟨rfl, ha⟩ rfl rfl
theorem at_w (ok : POKs W src base) {ts : List Tk} (h : Cur src s ts) {x : Str} (q : Q (.bool (decide (hk ts = x))) (PS W src base s)) : FW c (k + 1) (.ref (pk.ma 143 2)) [.ref W.rd, .str x] (PS W src base s) Q := by
  refine fn_intro pk.mReader_at.d rfl ?_
  refine sw_cons ?_
  trivial
  rw [h.tok]
  trivial
  exact q
theorem skipn_w (ok : POKs W src base) {ts : List Tk} (h : Cur src s ts) {x : Str} (hx : hk ts ≠ x) (q : Q (.bool false) (PS W src base s)) : FW c (k + 1) (.ref (pk.ma 143 3)) [.ref W.rd, .str x] (PS W src base s) Q := by
  refine fn_intro pk.mReader_skip.d rfl ?_
  refine sw_cons ?_
  trivial
  rw [h.tok]
  trivial
  exact q
theorem skipy_w (ok : POKs W src base) {t : Tk} {ts : List Tk} (h : Cur src s (t :: ts)) (q : ∀ s', Cur src s' ts → s'.rows = s.rows → s'.ps = s.ps → Q (.bool true) (PS W src base s')) : FW c (k + 9) (.ref (pk.ma 143 3)) [.ref W.rd, .str t.w.kind] (PS W src base s) Q := by
  refine fn_intro pk.mReader_skip.d rfl ?_
  refine sw_cons ?_
  trivial
  rw [h.tok]
  trivial
  (try (refine if_df (fun h => h rfl) ?_; trivial))
  refine FW.cw (step_w ok h fun s' h1 h2 h3 => ?_)
  trivial
  exact q s' h1 h2 h3
theorem expect_w (ok : POKs W src base) {t : Tk} {ts : List Tk} (h : Cur src s (t :: ts)) (q : ∀ s', Cur src s' ts → s'.rows = s.rows → s'.ps = s.ps → Q (.bool true) (PS W src base s')) : FW c (k + 10) (.ref (pk.ma 143 4)) [.ref W.rd, .str t.w.kind] (PS W src base s) Q := by
  refine fn_intro pk.mReader_expect.d rfl ?_
  refine sw_cons ?_
  trivial
  refine FW.cw (skipy_w ok h fun s' h1 h2 h3 => ?_)
  trivial
  exact q s' h1 h2 h3
end
noncomputable def markSt (p : Int) (code : Str) (s : PSt) : PSt := if (getI p s.ps).isSome then s else { s with rows := s.rows ++ [.tup [.int p, .str code]], ps := putI p (.str code) s.ps }
structure Dirty (h : MV) (n : Nat) (s : PSt) : Prop where
  rows : ∃ rest, s.rows = h :: rest
  len : s.rows.length ≤ n
  ps : s.ps.length ≤ n
structure Clean (s : PSt) : Prop where
  rows : s.rows = []
  ps : s.ps = []
theorem putI_len {x : Int} {v : MV} : ∀ l : List (Int × MV), (putI x v l).length ≤ l.length + 1
  | [] => Nat.le_refl _
  | (y, w) :: r => by
    unfold putI
    by_cases h : x = y
    · rw [if_pos h]; exact Nat.le_succ _
    · rw [if_neg h]; exact Nat.succ_le_succ (putI_len r)
theorem Dirty.mark {h : MV} {n : Nat} {s : PSt} (d : Dirty h n s) {p : Int} {code : Str} : Dirty h (n + 1) (markSt p code s) := by
  obtain ⟨⟨rest, e⟩, h1, h2⟩ := d
  unfold markSt
  by_cases hp : (getI p s.ps).isSome
  · rw [if_pos hp]; exact ⟨⟨rest, e⟩, by lia, by lia⟩
  · rw [if_neg hp]
    exact ⟨⟨rest ++ [.tup [.int p, .str code]], by rw [e]; rfl⟩, by simp; lia, Nat.le_trans (putI_len _) (Nat.succ_le_succ h2)⟩
theorem Dirty.le {h : MV} {n m : Nat} {s : PSt} (d : Dirty h n s) (hn : n ≤ m) : Dirty h m s := ⟨d.rows, Nat.le_trans d.len hn, Nat.le_trans d.ps hn⟩
theorem Clean.mark {s : PSt} (d : Clean s) {p : Int} {code : Str} : Dirty (.tup [.int p, .str code]) 1 (markSt p code s) := by
  unfold markSt
  rw [d.ps]
  refine ⟨⟨[], ?_⟩, ?_, ?_⟩
  · show (s.rows ++ _) = _; rw [d.rows]; rfl
  · show (s.rows ++ _).length ≤ 1; rw [d.rows]; exact Nat.le_refl _
  · exact Nat.le_refl _
section
variable {W : PAd} {src : Str} {base : MH} {s : PSt} {k : Nat} {Q : MV → MH → Prop}
theorem Cur.mark {ts : List Tk} (h : Cur src s ts) {p : Int} {code : Str} : Cur src (markSt p code s) ts := by
  unfold markSt
  split
  · exact h
  · exact ⟨h.tok, h.ahead⟩
theorem Cur.same {s' : PSt} {ts : List Tk} (h : Cur src s ts) (h1 : s'.tok = s.tok) (h2 : s'.place = s.place) : Cur src s' ts := ⟨by rw [h1]; exact h.tok, by rw [h2]; exact h.ahead⟩
theorem Dirty.same {h : MV} {n : Nat} {s s' : PSt} (d : Dirty h n s) (h1 : s'.rows = s.rows) (h2 : s'.ps = s.ps) : Dirty h n s' := ⟨by rw [h1]; exact d.rows, by rw [h1]; exact d.len, by rw [h2]; exact d.ps⟩
theorem Clean.same {s s' : PSt} (d : Clean s) (h1 : s'.rows = s.rows) (h2 : s'.ps = s.ps) : Clean s' := ⟨by rw [h1]; exact d.rows, by rw [h2]; exact d.ps⟩
theorem mark_w (ok : POKs W src base) {p : Int} {code : Str} (h1 : s.rows.length ≤ 5000) (h2 : s.ps.length ≤ 5000) (q : Q .none (PS W src base (markSt p code s))) : FW c (k + 1) (.ref (pk.ma 119 1)) [.ref W.er, .int p, .str code] (PS W src base s) Q := by
  refine fn_intro pk.mErrorList_mark.d rfl ?_
  refine sw_cons ?_
  trivial
  refine ow_notinid ps_places ?_
  trivial
  unfold markSt at q
  cases hp : (getI p s.ps).isSome with
  | true =>
    rw [if_pos hp] at q
    rw [Bool.not_true]
    trivial
    exact q
  | false =>
    rw [if_neg (by rw [hp]; decide)] at q
    rw [Bool.not_false]
    trivial
    refine uw_setid ps_places (show s.ps.length ≤ _ by lia) ?_
    rw [ps_setplaces]
    trivial
    refine ⟨_, mi_append (ps_rows ok), keeps_bi, ?_⟩
    trivial
    refine cw_append (ps_rows ok) (by show s.rows.length ≤ _; lia) ?_
    rw [ps_setrows ok]
    trivial
    exact q
theorem rdmark_w (ok : POKs W src base) {ts : List Tk} (h : Cur src s ts) {code : Str} (h1 : s.rows.length ≤ 5000) (h2 : s.ps.length ≤ 5000) (q : Q .none (PS W src base (markSt (hp src ts) code s))) : FW c (k + 2) (.ref (pk.ma 143 5)) [.ref W.rd, .str code] (PS W src base s) Q := by
  refine fn_intro pk.mReader_mark.d rfl ?_
  refine sw_cons ?_
  trivial
  rw [h.tok]
  trivial
  refine FW.cw (mark_w ok h1 h2 ?_)
  trivial
  exact q
theorem name_w (ok : POKs W src base) {t : Tk} {ts : List Tk} (h : Cur src s (t :: ts)) (hk : t.w.kind = "ident") (q : ∀ s', Cur src s' ts → s'.rows = s.rows → s'.ps = s.ps → Q (tkV t.w.kind t.w.val t.at') (PS W src base s')) : FW c (k + 9) (.ref (pk.ma 143 6)) [.ref W.rd] (PS W src base s) Q := by
  refine fn_intro pk.mReader_name.d rfl ?_
  refine sw_cons ?_
  trivial
  refine FW.cw (at_w ok h ?_)
  refine ⟨_, rfl, ?_⟩
  (try (refine if_dt hk ?_; trivial))
  refine FW.cw (step_w ok h fun s' h1 h2 h3 => ?_)
  trivial
  exact q s' h1 h2 h3
theorem const_w {σ : MH} {t v : MV} {p : Int} (q : Q (ND "const" p t [] v) σ) : FW c (k + 3) (.ref (pk.fa 3)) [t, v, .int p] σ Q := by
  refine fn_intro pk.fconst.d rfl ?_
  refine sw_cons ?_
  trivial
  refine ew_callG pk.cNode.g pk.cNode.k ?_
  trivial
  refine ew_flist ?_
  trivial
  refine node_w ?_
  trivial
  exact q
theorem ga_form {kd : Kd} {σ : MH} : GA c k (tyK kd) σ "form" (.str kd.form) := by
  cases kd
  · exact ga_ty (by decreasing_trivial)
  · exact ga_ty (by decreasing_trivial)
  · exact ga_ty (by decreasing_trivial)
theorem ga_bool {kn : Addr} {σ : MH} : GA c k (tysV kn) σ "boolean" (tyK .b) := ga_tys (by decreasing_trivial)
theorem ga_int {kn : Addr} {σ : MH} : GA c k (tysV kn) σ "integer" (tyK .i) := ga_tys (by decreasing_trivial)
theorem ga_mask {kn : Addr} {σ : MH} : GA c k (tysV kn) σ "mask" (tyK .s) := ga_tys (by decreasing_trivial)
theorem x_form {kd : Kd} {σ : MH} {P : MV → Prop} (q : P (.str kd.form)) : ∃ r, GA c k (tyK kd) σ "form" r ∧ P r := ⟨_, ga_form, q⟩
theorem x_bool {kn : Addr} {σ : MH} {P : MV → Prop} (q : P (tyK .b)) : ∃ r, GA c k (tysV kn) σ "boolean" r ∧ P r := ⟨_, ga_bool, q⟩
theorem x_int {kn : Addr} {σ : MH} {P : MV → Prop} (q : P (tyK .i)) : ∃ r, GA c k (tysV kn) σ "integer" r ∧ P r := ⟨_, ga_int, q⟩
theorem x_mask {kn : Addr} {σ : MH} {P : MV → Prop} (q : P (tyK .s)) : ∃ r, GA c k (tysV kn) σ "mask" r ∧ P r := ⟨_, ga_mask, q⟩
end
section
variable {W : PAd} {src : Str} {base : MH} {s : PSt} {k : Nat} {Q : MV → MH → Prop}
noncomputable def nmL : List Str := ["not", "s~", "neg", "+", "-", "*", "DIV", "MOD", "s+", "s-", "s*", "s/", "OR", "&", "=", "#", "<", "<=", ">", ">=", "s<=", "s>=", "IN"]
/-- a node and the row that is due for it -/
inductive Shp (W : PAd) : Nat → Kd → Bool → MV → MV → Prop
  | var {d : Nat} (kd : Kd) (alt : Bool) (p : Nat) : Shp W (d + 1) kd false (ND "var" p (tyK kd) [] (.ref (W.vo kd alt))) (.tup [.str "var", .int p, .str kd.form, .str (varNames kd alt)])
  | num {d : Nat} (m p : Nat) : 1 ≤ m → m ≤ 200 → Shp W (d + 1) .i true (ND "const" p (tyK .i) [] (.int m)) (.tup [.str "const", .int p, .str "integer", .int m])
  | un {d : Nat} {kd kd1 : Kd} {b : Bool} {name : Str} {p : Nat} {x dx : MV} : name ∈ nmL → Shp W d kd1 b x dx → Shp W (d + 1) kd false (ND name p (tyK kd) [x] .none) (node name p kd.form [dx])
  | bin {d : Nat} {kd kd1 kd2 : Kd} {b1 b2 : Bool} {name : Str} {p : Nat} {x dx y dy : MV} : name ∈ nmL → Shp W d kd1 b1 x dx → Shp W d kd2 b2 y dy → Shp W (d + 1) kd false (ND name p (tyK kd) [x, y] .none) (node name p kd.form [dx, dy])
theorem Shp.le {d d' : Nat} {kd : Kd} {b : Bool} {x dx : MV} (h : Shp W d kd b x dx) (hd : d ≤ d') : Shp W d' kd b x dx := by
  induction h generalizing d' with
  | var kd alt p => obtain ⟨e, rfl⟩ : ∃ e, d' = e + 1 := ⟨d' - 1, by lia⟩; exact .var kd alt p
  | num m p h h2 => obtain ⟨e, rfl⟩ : ∃ e, d' = e + 1 := ⟨d' - 1, by lia⟩; exact .num m p h h2
  | un hn _ ih => obtain ⟨e, rfl⟩ : ∃ e, d' = e + 1 := ⟨d' - 1, by lia⟩; exact .un hn (ih (by lia))
  | bin hn _ _ ih1 ih2 => obtain ⟨e, rfl⟩ : ∃ e, d' = e + 1 := ⟨d' - 1, by lia⟩; exact .bin hn (ih1 (by lia)) (ih2 (by lia))
inductive Sane : MV → Prop
  | const (kd : Kd) (p i : Int) : Sane (ND "const" p (tyK kd) [] (.int i))
  | other {op : Str} (kd : Kd) (p : Int) (kids : List MV) (v : MV) : ¬ op = "const" → ¬ op = "proc" → Sane (ND op p (tyK kd) kids v)
theorem nm_ne {name : Str} (h : name ∈ nmL) : ¬ name = "const" ∧ ¬ name = "proc" ∧ ¬ name = "var" := by
  have : ∀ name ∈ nmL, ¬ name = "const" ∧ ¬ name = "proc" ∧ ¬ name = "var" := by decide +kernel
  exact this name h
theorem Shp.sane {d : Nat} {kd : Kd} {b : Bool} {x dx : MV} (h : Shp W d kd b x dx) : Sane x := by
  cases h with
  | var kd alt p => exact .other _ _ _ _ (by decide +kernel) (by decide +kernel)
  | num m p h h2 => exact .const _ _ _
  | un hn _ => exact .other _ _ _ _ (nm_ne hn).1 (nm_ne hn).2.1
  | bin hn _ _ => exact .other _ _ _ _ (nm_ne hn).1 (nm_ne hn).2.1
/-- what a whole node is made of -/
theorem Shp.shape {d : Nat} {kd : Kd} {x dx : MV} (h : Shp W d kd false x dx) : ∃ op p kids v, x = ND op p (tyK kd) kids v ∧ ¬ op = "const" ∧ ¬ op = "proc" := by
  cases h with
  | var kd alt p => exact ⟨_, _, _, _, rfl, by decide +kernel, by decide +kernel⟩
  | un hn _ => exact ⟨_, _, _, _, rfl, (nm_ne hn).1, (nm_ne hn).2.1⟩
  | bin hn _ _ => exact ⟨_, _, _, _, rfl, (nm_ne hn).1, (nm_ne hn).2.1⟩
theorem isint_w {σ : MH} {kd : Kd} (q : Q (.bool (decide (kd = .i))) σ) : FW c (k + 1) (.ref (pk.fa 9)) [tyK kd] σ Q := by
  refine fn_intro pk.fisinteger.d rfl ?_
  refine sw_cons ?_
  trivial
  cases kd
  · refine if_dt rfl ?_
    exact q
  · refine if_df (by decide +kernel) ?_
    trivial
    exact q
  · refine if_df (by decide +kernel) ?_
    trivial
    exact q
theorem isconst_w {σ : MH} {op : Str} {p : Int} {t v : MV} {kids : List MV} (q : Q (.bool (decide (op = "const"))) σ) : FW c (k + 1) (.ref (pk.fa 51)) [ND op p t kids v] σ Q := by
  refine fn_intro pk.fisconst.d rfl ?_
  refine sw_cons ?_
  trivial
  exact q
theorem wrong_w (ok : POKs W src base) {t : MV} {p : Int} {code : Str} (h1 : s.rows.length ≤ 5000) (h2 : s.ps.length ≤ 5000) (q : Q (ND "const" p t [] (.int 0)) (PS W src base (markSt p code s))) : FW c (k + 4) (.ref (pk.fa 53)) [.ref W.er, t, .int p, .str code] (PS W src base s) Q := by
  refine fn_intro pk.fwrong.d rfl ?_
  refine sw_cons ?_
  trivial
  refine FW.cw (mark_w ok h1 h2 ?_)
  trivial
  refine ew_callG pk.fconst.g pk.fconst.k ?_
  trivial
  refine FW.cw (const_w ?_)
  trivial
  exact q
end
section
variable {W : PAd} {src : Str} {base : MH} {s : PSt} {k : Nat} {Q : MV → MH → Prop}
theorem wrap_w {σ : MH} {n : Int} (q : ∀ v, Q (.int v) σ) : FW c (k + 1) (.ref (pk.fa 39)) [.int n] σ Q := by
  obtain ⟨t, gf⟩ := pk.gFULL
  refine fn_intro pk.fwrap.d rfl ?_
  refine sw_cons ?_
  trivial
  refine ew_nameI gf ?_
  trivial
  refine if_d (fun h => ?_) (fun h => ?_)
  · trivial
    refine ew_nameI gf ?_
    trivial
    exact q _
  · trivial
    exact q _
theorem fits_w {σ : MH} {n : Int} (q : ∀ b, Q (.bool b) σ) : FW c (k + 1) (.ref (pk.fa 40)) [.int n] σ Q := by
  refine fn_intro pk.ffits.d rfl ?_
  refine sw_cons ?_
  trivial
  refine if_d (fun h => ?_) (fun h => ?_)
  · trivial
    exact q _
  · trivial
    exact q _
theorem checked_w {σ : MH} {n : Int} (q : ∀ v code, Q (.tup [.int v, .str code]) σ) : FW c (k + 2) (.ref (pk.fa 41)) [.int n] σ Q := by
  refine fn_intro pk.fchecked.d rfl ?_
  refine sw_cons ?_
  trivial
  refine ew_callG pk.ffits.g pk.ffits.k ?_
  trivial
  refine FW.cw (fits_w fun b => ?_)
  refine ⟨_, rfl, ?_⟩
  cases b with
  | true =>
    trivial
    exact q _ _
  | false =>
    trivial
    refine ew_callG pk.fwrap.g pk.fwrap.k ?_
    trivial
    refine FW.cw (wrap_w fun v => ?_)
    trivial
    exact q _ _
theorem foldun_w {σ : MH} {op : Str} {x : Int} (q : ∀ v code, Q (.tup [.int v, .str code]) σ) : FW c (k + 3) (.ref (pk.fa 42)) [.str op, .int x] σ Q := by
  refine fn_intro pk.ffoldunary.d rfl ?_
  refine sw_cons ?_
  trivial
  refine if_d (fun h => ?_) (fun h => ?_)
  · trivial
    refine ew_callG pk.fchecked.g pk.fchecked.k ?_
    trivial
    refine FW.cw (checked_w fun v code => ?_)
    trivial
    exact q _ _
  · trivial
    refine if_d (fun h => ?_) (fun h => ?_)
    · trivial
      exact q _ _
    · trivial
      obtain ⟨t, gf⟩ := pk.gFULL
      refine ew_nameI gf ?_
      trivial
      exact q _ _
/-- a node over one that is no constant -/
theorem unode_w {σ : MH} {er : MV} {op op1 : Str} {p p1 : Int} {t t1 v1 : MV} {kids : List MV} (h1 : ¬ op1 = "const") (q : Q (ND op p t [ND op1 p1 t1 kids v1] .none) σ) : FW c (k + 3) (.ref (pk.fa 55)) [er, .str op, t, ND op1 p1 t1 kids v1, .int p] σ Q := by
  refine fn_intro pk.funarynode.d rfl ?_
  refine sw_cons ?_
  trivial
  refine ew_callG pk.fisconst.g pk.fisconst.k ?_
  trivial
  refine FW.cw (isconst_w ?_)
  trivial
  refine ew_callG pk.cNode.g pk.cNode.k ?_
  trivial
  refine ew_flist ?_
  trivial
  refine node_w ?_
  trivial
  exact q
theorem unodec_w (ok : POKs W src base) {op : Str} {p p1 i : Int} {t t1 : MV} {kids : List MV} (h1 : s.rows.length ≤ 5000) (h2 : s.ps.length ≤ 5000) (q1 : ∀ i, Q (ND "const" p t [] (.int i)) (PS W src base s)) (q2 : ∀ code, Q (ND "const" p t [] (.int 0)) (PS W src base (markSt p code s))) :
    FW c (k + 5) (.ref (pk.fa 55)) [.ref W.er, .str op, t, ND "const" p1 t1 kids (.int i), .int p] (PS W src base s) Q := by
  refine fn_intro pk.funarynode.d rfl ?_
  refine sw_cons ?_
  trivial
  refine ew_callG pk.fisconst.g pk.fisconst.k ?_
  trivial
  refine FW.cw (isconst_w ?_)
  trivial
  refine ew_callG pk.ffoldunary.g pk.ffoldunary.k ?_
  trivial
  refine FW.cw (foldun_w fun v code => ?_)
  trivial
  refine if_d (fun h => ?_) (fun h => ?_)
  · trivial
    refine ew_callG pk.fwrong.g pk.fwrong.k ?_
    trivial
    refine FW.cw (wrong_w ok h1 h2 ?_)
    trivial
    exact q2 _
  · trivial
    refine ew_callG pk.fconst.g pk.fconst.k ?_
    trivial
    refine FW.cw (const_w ?_)
    trivial
    exact q1 _
end
theorem if_dn {P : Prop} [Decidable P] {A B : Prop} (h1 : P → B) (h2 : ¬ P → A) : if (!decide P) = true then A else B := by
  by_cases h : P
  · simp [h, h1 h]
  · simp [h, h2 h]
noncomputable def Mk (s s' : PSt) : Prop := s' = s ∨ ∃ p code, s' = markSt p code s
section
variable {W : PAd} {src : Str} {base : MH} {s : PSt} {k : Nat} {Q : MV → MH → Prop}
inductive UnOK : Kd → Str → Str → Prop
  | not : UnOK .b "~" "not"
  | sneg : UnOK .s "-" "s~"
  | neg : UnOK .i "-" "neg"
theorem unary_w {σ : MH} {er : MV} {kn : Addr} {kd : Kd} {op nm op1 : Str} (hu : UnOK kd op nm) {p p1 : Int} {v1 : MV} {kids : List MV} (h1 : ¬ op1 = "const") (q : Q (ND nm p (tyK kd) [ND op1 p1 (tyK kd) kids v1] .none) σ) :
    FW c (k + 4) (.ref (pk.fa 54)) [tysV kn, er, .str op, ND op1 p1 (tyK kd) kids v1, .int p] σ Q := by
  refine fn_intro pk.funary.d rfl ?_
  refine sw_cons ?_
  trivial
  cases hu with
  | not =>
    trivial
    (try (refine if_df (by decide +kernel) ?_; trivial))
    refine ew_callG pk.funarynode.g pk.funarynode.k ?_
    trivial
    refine FW.cw (unode_w h1 ?_)
    trivial
    exact q
  | sneg =>
    trivial
    (try (refine if_dt (by decide +kernel) ?_; trivial))
    refine ew_callG pk.funarynode.g pk.funarynode.k ?_
    trivial
    refine FW.cw (unode_w h1 ?_)
    trivial
    exact q
  | neg =>
    trivial
    refine ew_callG pk.fisinteger.g pk.fisinteger.k ?_
    trivial
    refine FW.cw (isint_w ?_)
    trivial
    refine ew_callG pk.funarynode.g pk.funarynode.k ?_
    trivial
    refine FW.cw (unode_w h1 ?_)
    trivial
    exact q
theorem unaryp_w {σ : MH} {er : MV} {kn : Addr} {op1 : Str} {p p1 : Int} {v1 : MV} {kids : List MV} (q : Q (ND op1 p1 (tyK .i) kids v1) σ) :
    FW c (k + 4) (.ref (pk.fa 54)) [tysV kn, er, .str "+", ND op1 p1 (tyK .i) kids v1, .int p] σ Q := by
  refine fn_intro pk.funary.d rfl ?_
  refine sw_cons ?_
  trivial
  refine ew_callG pk.fisinteger.g pk.fisinteger.k ?_
  trivial
  refine FW.cw (isint_w ?_)
  trivial
  exact q
theorem unaryd_w (ok : POKs W src base) {kn : Addr} {op : Str} {p : Int} {nd : MV} (hs : Sane nd) (h1 : s.rows.length ≤ 5000) (h2 : s.ps.length ≤ 5000) (q : ∀ nd' s', Sane nd' → Mk s s' → Q nd' (PS W src base s')) :
    FW c (k + 6) (.ref (pk.fa 54)) [tysV kn, .ref W.er, .str op, nd, .int p] (PS W src base s) Q := by
  have qc : ∀ kd p i, Q (ND "const" p (tyK kd) [] (.int i)) (PS W src base s) := fun kd p i => q _ _ (.const kd p i) (.inl rfl)
  have qm : ∀ kd p i p' code, Q (ND "const" p (tyK kd) [] (.int i)) (PS W src base (markSt p' code s)) := fun kd p i p' code => q _ _ (.const kd p i) (.inr ⟨_, _, rfl⟩)
  have un : ∀ {kd : Kd} {nm : Str}, nm ∈ (["not", "s~", "neg"] : List Str) → FW c (k + 5) (.ref (pk.fa 55)) [.ref W.er, .str nm, tyK kd, nd, .int p] (PS W src base s) Q := by
    intro kd nm hn
    cases hs with
    | const kd1 p1 i => exact unodec_w ok h1 h2 (fun i => qc _ _ _) (fun code => qm _ _ _ _ _)
    | other kd1 p1 kids v hc hp =>
      refine (unode_w (k := k) hc (q _ _ (.other _ _ _ _ ?_ ?_) (.inl rfl))).le (by lia)
      · have : ∀ nm ∈ (["not", "s~", "neg"] : List Str), ¬ nm = "const" := by decide +kernel
        exact this nm hn
      · have : ∀ nm ∈ (["not", "s~", "neg"] : List Str), ¬ nm = "proc" := by decide +kernel
        exact this nm hn
  obtain ⟨op1, p1, kd1, kids, v, rfl⟩ : ∃ op1 p1 kd1 kids v, nd = ND op1 p1 (tyK kd1) kids v := by cases hs <;> exact ⟨_, _, _, _, _, rfl⟩
  have wr : ∀ {kd : Kd} {p : Int} {code : Str}, FW c (k + 5) (.ref (pk.fa 53)) [.ref W.er, tyK kd, .int p, .str code] (PS W src base s) Q := fun {kd p code} => (wrong_w (k := k) ok h1 h2 (qm _ _ _ _ _)).le (by lia)
  refine fn_intro pk.funary.d rfl ?_
  refine sw_cons ?_
  trivial
  refine if_d (fun e1 => ?_) (fun e1 => ?_)
  · trivial
    refine if_d (fun e2 => ?_) (fun e2 => ?_)
    · trivial
      refine ew_callG pk.fwrong.g pk.fwrong.k ?_
      trivial
      exact wr.cw
    · trivial
      refine ew_callG pk.funarynode.g pk.funarynode.k ?_
      trivial
      exact (un (by decide +kernel)).cw
  · trivial
    refine if_d (fun e2 => ?_) (fun e2 => ?_)
    · trivial
      refine if_d (fun e3 => ?_) (fun e3 => ?_)
      · trivial
        refine ew_callG pk.funarynode.g pk.funarynode.k ?_
        trivial
        exact (un (by decide +kernel)).cw
      · trivial
        refine ew_callG pk.fisinteger.g pk.fisinteger.k ?_
        trivial
        refine FW.cw (isint_w ?_)
        trivial
        refine if_dn (fun e4 => ?_) (fun e4 => ?_)
        · trivial
          refine ew_callG pk.funarynode.g pk.funarynode.k ?_
          trivial
          exact (un (by decide +kernel)).cw
        · trivial
          refine ew_callG pk.fwrong.g pk.fwrong.k ?_
          trivial
          exact wr.cw
    · trivial
      refine ew_callG pk.fisinteger.g pk.fisinteger.k ?_
      trivial
      refine FW.cw (isint_w ?_)
      trivial
      refine if_dn (fun e4 => ?_) (fun e4 => ?_)
      · trivial
        exact q _ _ hs (.inl rfl)
      · trivial
        refine ew_callG pk.fwrong.g pk.fwrong.k ?_
        trivial
        exact wr.cw
end
noncomputable def Small (i : Int) : Prop := ∃ m : Nat, m ≤ 200 ∧ i = m
theorem small_bits {i : Int} (h : Small i) : Builtin.Int.intBits i ≤ 64 := by
  obtain ⟨m, hm, rfl⟩ := h
  have : ∀ m : Nat, m ≤ 200 → Builtin.Int.intBits (m : Int) ≤ 64 := by decide +kernel
  exact this m hm
theorem small_mul {i j : Int} (h : Small i ∨ Small j) : IntMulOk i j := by
  rcases h with h | h
  · exact IntMulOk.of_left (small_bits h)
  · exact IntMulOk.of_right (small_bits h)
theorem small_div {i j : Int} (h : Small i ∨ Small j) : Builtin.divisionGoesByPylong i j = false := by
  have key : ∀ i : Int, Small i → (if (i == 0) = true then 0 else i.natAbs.log2 / 30 + 1) ≤ 1 := by
    intro i ⟨m, hm, e⟩
    subst e
    have : ∀ m : Nat, m ≤ 200 → (if ((m : Int) == 0) = true then 0 else (m : Int).natAbs.log2 / 30 + 1) ≤ 1 := by decide +kernel
    exact this m hm
  unfold Builtin.divisionGoesByPylong
  rcases h with h | h
  · have := key i h
    simp only [Bool.and_eq_false_iff, decide_eq_false_iff_not]
    right; lia
  · have := key j h
    simp only [Bool.and_eq_false_iff, decide_eq_false_iff_not]
    left; lia
section
variable {W : PAd} {src : Str} {base : MH} {s : PSt} {k : Nat} {Q : MV → MH → Prop}
theorem folddiv_w {σ : MH} {op : Str} {x y : Int} (h : Small x ∨ Small y) (q : ∀ v code, Q (.tup [.int v, .str code]) σ) : FW c (k + 1) (.ref (pk.fa 43)) [.str op, .int x, .int y] σ Q := by
  refine fn_intro pk.ffolddivision.d rfl ?_
  refine sw_cons ?_
  trivial
  refine if_d (fun h => ?_) (fun h => ?_)
  · trivial
    exact q _ _
  · trivial
    refine if_d (fun e => ?_) (fun e => ?_)
    · trivial
      refine ow_div (by lia) (small_div ‹_›) ?_
      trivial
      exact q _ _
    · trivial
      refine ow_mod (by lia) ?_
      trivial
      exact q _ _
theorem foldbin_w {σ : MH} {op : Str} {x y : Int} (hs : Small x ∨ Small y) (q : ∀ v code, Q (.tup [.int v, .str code]) σ) : FW c (k + 3) (.ref (pk.fa 44)) [.str op, .int x, .int y] σ Q := by
  obtain ⟨t, gf⟩ := pk.gFULL
  refine fn_intro pk.ffoldbinary.d rfl ?_
  refine sw_cons ?_
  trivial
  refine if_d (fun h => ?_) (fun h => ?_)
  · trivial
    refine ew_callG pk.fchecked.g pk.fchecked.k ?_
    trivial
    refine FW.cw (checked_w fun v code => ?_)
    trivial
    exact q _ _
  trivial
  refine if_d (fun h => ?_) (fun h => ?_)
  · trivial
    refine ew_callG pk.fchecked.g pk.fchecked.k ?_
    trivial
    refine FW.cw (checked_w fun v code => ?_)
    trivial
    exact q _ _
  trivial
  refine if_d (fun h => ?_) (fun h => ?_)
  · trivial
    refine ew_callG pk.fchecked.g pk.fchecked.k ?_
    trivial
    refine ow_mul (small_mul hs) ?_
    trivial
    refine FW.cw (checked_w fun v code => ?_)
    trivial
    exact q _ _
  trivial
  have dv : FW c (k + 2) (.ref (pk.fa 43)) [.str op, .int x, .int y] σ Q := (folddiv_w (k := k) hs q).le (by lia)
  refine if_d (fun h => ?_) (fun h => ?_)
  · trivial
    refine ew_callG pk.ffolddivision.g pk.ffolddivision.k ?_
    trivial
    exact dv.cw
  trivial
  refine if_d (fun h => ?_) (fun h => ?_)
  · trivial
    refine ew_callG pk.ffolddivision.g pk.ffolddivision.k ?_
    trivial
    exact dv.cw
  trivial
  refine if_d (fun h => ?_) (fun h => ?_)
  · trivial
    exact q _ _
  trivial
  refine if_d (fun h => ?_) (fun h => ?_)
  · trivial
    exact q _ _
  trivial
  refine if_d (fun h => ?_) (fun h => ?_)
  · trivial
    exact q _ _
  trivial
  refine if_d (fun h => ?_) (fun h => ?_)
  · trivial
    exact q _ _
  trivial
  refine if_d (fun h => ?_) (fun h => ?_)
  · trivial
    refine ew_nameI gf ?_
    trivial
    exact q _ _
  trivial
  exact q _ _
end
section
variable {W : PAd} {src : Str} {base : MH} {s : PSt} {k : Nat} {Q : MV → MH → Prop}
theorem bnode_w {σ : MH} {er : MV} {op o1 o2 : Str} {p p1 p2 : Int} {t t1 t2 v1 v2 : MV} {k1 k2 : List MV} (h : ¬ o1 = "const" ∨ ¬ o2 = "const") (q : Q (ND op p t [ND o1 p1 t1 k1 v1, ND o2 p2 t2 k2 v2] .none) σ) :
    FW c (k + 3) (.ref (pk.fa 57)) [er, .str op, t, ND o1 p1 t1 k1 v1, ND o2 p2 t2 k2 v2, .int p] σ Q := by
  refine fn_intro pk.fbinarynode.d rfl ?_
  refine sw_cons ?_
  trivial
  refine ew_callG pk.fisconst.g pk.fisconst.k ?_
  trivial
  refine FW.cw (isconst_w ?_)
  refine ⟨_, rfl, ?_⟩
  have fin : ∀ {ml : Loc}, getM "op" ml = some (.str op) → True := fun _ => True.intro
  by_cases h1 : o1 = "const"
  · have h2 : ¬ o2 = "const" := fun e => h.elim (fun x => x h1) (fun x => x e)
    trivial
    refine ew_callG pk.fisconst.g pk.fisconst.k ?_
    trivial
    refine FW.cw (isconst_w ?_)
    trivial
    refine ew_callG pk.cNode.g pk.cNode.k ?_
    trivial
    refine ew_flist ?_
    trivial
    refine node_w ?_
    trivial
    exact q
  · trivial
    refine ew_callG pk.cNode.g pk.cNode.k ?_
    trivial
    refine ew_flist ?_
    trivial
    refine node_w ?_
    trivial
    exact q
theorem bnodec_w (ok : POKs W src base) {op : Str} {p p1 p2 i j : Int} {t t1 t2 : MV} {k1 k2 : List MV} (hsm : Small i ∨ Small j) (h1 : s.rows.length ≤ 5000) (h2 : s.ps.length ≤ 5000) (q1 : ∀ i, Q (ND "const" p t [] (.int i)) (PS W src base s)) (q2 : ∀ code, Q (ND "const" p t [] (.int 0)) (PS W src base (markSt p code s))) :
    FW c (k + 5) (.ref (pk.fa 57)) [.ref W.er, .str op, t, ND "const" p1 t1 k1 (.int i), ND "const" p2 t2 k2 (.int j), .int p] (PS W src base s) Q := by
  refine fn_intro pk.fbinarynode.d rfl ?_
  refine sw_cons ?_
  trivial
  refine ew_callG pk.fisconst.g pk.fisconst.k ?_
  trivial
  refine FW.cw (isconst_w ?_)
  trivial
  refine ew_callG pk.fisconst.g pk.fisconst.k ?_
  trivial
  refine FW.cw (isconst_w ?_)
  trivial
  refine ew_callG pk.ffoldbinary.g pk.ffoldbinary.k ?_
  trivial
  refine FW.cw (foldbin_w hsm fun v code => ?_)
  trivial
  refine if_d (fun h => ?_) (fun h => ?_)
  · trivial
    refine ew_callG pk.fwrong.g pk.fwrong.k ?_
    trivial
    refine FW.cw (wrong_w ok h1 h2 ?_)
    trivial
    exact q2 _
  · trivial
    refine ew_callG pk.fconst.g pk.fconst.k ?_
    trivial
    refine FW.cw (const_w ?_)
    trivial
    exact q1 _
noncomputable def binOps : List Str := ["+", "-", "*", "/", "DIV", "MOD", "OR", "&"]
theorem binop_ok {op : Str} (h : op ∈ binOps) : op.length ≤ 3 ∧ ¬ op = "const" ∧ ¬ op = "proc" ∧ ¬ (("s" : Str) ++ op) = "const" ∧ ¬ (("s" : Str) ++ op) = "proc" := by
  have : ∀ op ∈ binOps, op.length ≤ 3 ∧ ¬ op = "const" ∧ ¬ op = "proc" ∧ ¬ (("s" : Str) ++ op) = "const" ∧ ¬ (("s" : Str) ++ op) = "proc" := by decide +kernel
  exact this op h
/-- both whole -/
theorem binary_w {σ : MH} {er : MV} {kn : Addr} {kd : Kd} {op o1 o2 : Str} (hop : op ∈ opsOf kd) {p p1 p2 : Int} {v1 v2 : MV} {k1 k2 : List MV} (h : ¬ o1 = "const" ∨ ¬ o2 = "const") (hv : o2 = "const" → ∃ j : Int, v2 = .int j ∧ 0 < j)
    (q : Q (ND (opName kd op) p (tyK kd) [ND o1 p1 (tyK kd) k1 v1, ND o2 p2 (tyK kd) k2 v2] .none) σ) :
    FW c (k + 4) (.ref (pk.fa 56)) [tysV kn, er, .str op, ND o1 p1 (tyK kd) k1 v1, ND o2 p2 (tyK kd) k2 v2, .int p] σ Q := by
  have hl : op.length ≤ 3 := (wd_len (.sym op (opsym hop)))
  refine fn_intro pk.fbinary.d rfl ?_
  refine sw_cons ?_
  trivial
  cases kd with
  | b =>
    have hb : op = "OR" ∨ op = "&" := by simpa [opsOf] using hop
    rcases hb with rfl | rfl
    · trivial
      (try (refine if_df (by decide +kernel) ?_; trivial))
      (try (refine if_df (by decide +kernel) ?_; trivial))
      refine ew_callG pk.fbinarynode.g pk.fbinarynode.k ?_
      trivial
      refine FW.cw (bnode_w h ?_)
      trivial
      exact q
    · trivial
      (try (refine if_df (by decide +kernel) ?_; trivial))
      (try (refine if_df (by decide +kernel) ?_; trivial))
      refine ew_callG pk.fbinarynode.g pk.fbinarynode.k ?_
      trivial
      refine FW.cw (bnode_w h ?_)
      trivial
      exact q
  | s =>
    have n1 : ∀ op ∈ opsOf .s, ¬ op = "&" ∧ ¬ op = "OR" ∧ op ∈ (["+", "-", "*", "/"] : List Str) := by decide +kernel
    obtain ⟨a1, a2, a3⟩ := n1 op hop
    trivial
    (try (refine if_dt (by decide +kernel) ?_; trivial))
    (try (refine if_dt (by decide +kernel) ?_; trivial))
    refine ew_callG pk.fbinarynode.g pk.fbinarynode.k ?_
    trivial
    refine ow_addstr (by rw [sizeLine_eq]; have : ("s" : Str).length = 1 := rfl; lia) ?_
    trivial
    refine FW.cw (bnode_w h ?_)
    trivial
    exact q
  | i =>
    have n1 : ∀ op ∈ opsOf .i, ¬ op = "&" ∧ ¬ op = "OR" ∧ ¬ op = "/" := by decide +kernel
    obtain ⟨a1, a2, a3⟩ := n1 op hop
    trivial
    (try (refine if_df (by decide +kernel) ?_; trivial))
    refine ew_callG pk.fisinteger.g pk.fisinteger.k ?_
    trivial
    refine FW.cw (isint_w ?_)
    trivial
    refine ew_callG pk.fisinteger.g pk.fisinteger.k ?_
    trivial
    refine FW.cw (isint_w ?_)
    trivial
    refine if_d (fun e1 => ?_) (fun e1 => ?_)
    · trivial
      refine ew_callG pk.fisconst.g pk.fisconst.k ?_
      trivial
      refine FW.cw (isconst_w ?_)
      refine ⟨_, rfl, ?_⟩
      by_cases h2 : o2 = "const"
      · obtain ⟨j, rfl, hj⟩ := hv h2
        trivial
        refine ew_callG pk.fbinarynode.g pk.fbinarynode.k ?_
        trivial
        refine FW.cw (bnode_w h ?_)
        trivial
        exact q
      · trivial
        refine ew_callG pk.fbinarynode.g pk.fbinarynode.k ?_
        trivial
        refine FW.cw (bnode_w h ?_)
        trivial
        exact q
    · trivial
      refine ew_callG pk.fbinarynode.g pk.fbinarynode.k ?_
      trivial
      refine FW.cw (bnode_w h ?_)
      trivial
      exact q
/-- one of them out of order -/
theorem binaryd_w (ok : POKs W src base) {kn : Addr} {op : Str} (hop : op ∈ binOps) {p : Int} {x y : MV} (hx : Sane x) (hy : Sane y) (hsm : ∀ kd p i kd' p' j, x = ND "const" p (tyK kd) [] (.int i) → y = ND "const" p' (tyK kd') [] (.int j) → Small i ∨ Small j)
    (h1 : s.rows.length ≤ 5000) (h2 : s.ps.length ≤ 5000) (q : ∀ nd' s', Sane nd' → Mk s s' → Q nd' (PS W src base s')) :
    FW c (k + 6) (.ref (pk.fa 56)) [tysV kn, .ref W.er, .str op, x, y, .int p] (PS W src base s) Q := by
  have hbo := binop_ok hop
  have qc : ∀ kd p i, Q (ND "const" p (tyK kd) [] (.int i)) (PS W src base s) := fun kd p i => q _ _ (.const kd p i) (.inl rfl)
  have qm : ∀ kd p i p' code, Q (ND "const" p (tyK kd) [] (.int i)) (PS W src base (markSt p' code s)) := fun kd p i p' code => q _ _ (.const kd p i) (.inr ⟨_, _, rfl⟩)
  have bn : ∀ {kd : Kd} {nm : Str}, ¬ nm = "const" → ¬ nm = "proc" → FW c (k + 5) (.ref (pk.fa 57)) [.ref W.er, .str nm, tyK kd, x, y, .int p] (PS W src base s) Q := by
    intro kd nm n1 n2
    cases hx with
    | const kd1 p1 i =>
      cases hy with
      | const kd2 p2 j => exact bnodec_w ok (hsm _ _ _ _ _ _ rfl rfl) h1 h2 (fun i => qc _ _ _) (fun code => qm _ _ _ _ _)
      | other kd2 p2 kids v hc hp => exact (bnode_w (k := k) (.inr hc) (q _ _ (.other _ _ _ _ n1 n2) (.inl rfl))).le (by lia)
    | other kd1 p1 kids v hc hp =>
      obtain ⟨op2, p2, kd2, kids2, v2, rfl⟩ : ∃ op1 p1 kd1 kids v, y = ND op1 p1 (tyK kd1) kids v := by cases hy <;> exact ⟨_, _, _, _, _, rfl⟩
      exact (bnode_w (k := k) (.inl hc) (q _ _ (.other _ _ _ _ n1 n2) (.inl rfl))).le (by lia)
  have wr : ∀ {kd : Kd} {p : Int} {code : Str}, FW c (k + 5) (.ref (pk.fa 53)) [.ref W.er, tyK kd, .int p, .str code] (PS W src base s) Q := fun {kd p code} => (wrong_w (k := k) ok h1 h2 (qm _ _ _ _ _)).le (by lia)
  have hyv : ∀ op1 p1 kd1 kids v, y = ND op1 p1 (tyK kd1) kids v → op1 = "const" → ∃ j, v = .int j := by
    intro op1 p1 kd1 kids v e ec
    cases hy with
    | const kd2 p2 j =>
      unfold ND at e
      simp only [MV.finst.injEq, List.cons.injEq, Prod.mk.injEq, true_and] at e
      exact ⟨j, by have := e.2; simp at this; exact this.2.2.2.symm⟩
    | other kd2 p2 kids v hc hp =>
      unfold ND at e
      simp only [MV.finst.injEq, List.cons.injEq, Prod.mk.injEq, true_and, MV.str.injEq] at e
      exact absurd (e.1.trans ec) hc
  obtain ⟨o1, p1, kd1, k1, v1, rfl⟩ : ∃ op1 p1 kd1 kids v, x = ND op1 p1 (tyK kd1) kids v := by cases hx <;> exact ⟨_, _, _, _, _, rfl⟩
  obtain ⟨o2, p2, kd2, k2, v2, rfl⟩ : ∃ op1 p1 kd1 kids v, y = ND op1 p1 (tyK kd1) kids v := by cases hy <;> exact ⟨_, _, _, _, _, rfl⟩
  have rest3 : SW c (k + 5) (fScope (topAt 56)) ((fBody (topAt 56)).drop 3) ([("types" : Str), "errors", "op", "x", "y", "place"].zip ([tysV kn, .ref W.er, .str op, ND o1 p1 (tyK kd1) k1 v1, ND o2 p2 (tyK kd2) k2 v2, .int p] ++ [])) (PS W src base s) (retP Q) := by
    refine sw_cons ?_
    trivial
    refine if_d (fun e1 => ?_) (fun e1 => ?_)
    · trivial
      refine ew_callG pk.fwrong.g pk.fwrong.k ?_
      trivial
      exact wr.cw
    · trivial
      refine if_d (fun e1 => ?_) (fun e1 => ?_)
      · trivial
        refine ew_callG pk.fwrong.g pk.fwrong.k ?_
        trivial
        exact wr.cw
      · trivial
        refine ew_callG pk.fwrong.g pk.fwrong.k ?_
        trivial
        exact wr.cw
  have rest2 : SW c (k + 5) (fScope (topAt 56)) ((fBody (topAt 56)).drop 2) ([("types" : Str), "errors", "op", "x", "y", "place"].zip ([tysV kn, .ref W.er, .str op, ND o1 p1 (tyK kd1) k1 v1, ND o2 p2 (tyK kd2) k2 v2, .int p] ++ [])) (PS W src base s) (retP Q) := by
    refine sw_cons ?_
    trivial
    refine ew_callG pk.fisinteger.g pk.fisinteger.k ?_
    trivial
    refine FW.cw (isint_w ?_)
    refine ⟨_, rfl, ?_⟩
    refine if_d (fun e1 => ?_) (fun e1 => ?_)
    · trivial
      refine ew_callG pk.fisinteger.g pk.fisinteger.k ?_
      trivial
      refine FW.cw (isint_w ?_)
      refine ⟨_, rfl, ?_⟩
      refine if_d (fun e2 => ?_) (fun e2 => ?_)
      · trivial
        refine if_d (fun e3 => ?_) (fun e3 => ?_)
        · trivial
          refine if_d (fun e4 => ?_) (fun e4 => ?_)
          · trivial
            refine ew_callG pk.fisconst.g pk.fisconst.k ?_
            trivial
            refine FW.cw (isconst_w ?_)
            refine ⟨_, rfl, ?_⟩
            refine if_d (fun e5 => ?_) (fun e5 => ?_)
            · obtain ⟨j, rfl⟩ := hyv _ _ _ _ _ rfl e5
              trivial
              refine if_d (fun e6 => ?_) (fun e6 => ?_)
              · trivial
                refine ew_callG pk.fwrong.g pk.fwrong.k ?_
                trivial
                exact wr.cw
              · trivial
                refine ew_callG pk.fbinarynode.g pk.fbinarynode.k ?_
                trivial
                exact (bn hbo.2.1 hbo.2.2.1).cw
            · trivial
              refine ew_callG pk.fbinarynode.g pk.fbinarynode.k ?_
              trivial
              exact (bn hbo.2.1 hbo.2.2.1).cw
          · trivial
            refine ew_callG pk.fbinarynode.g pk.fbinarynode.k ?_
            trivial
            exact (bn hbo.2.1 hbo.2.2.1).cw
        · exact sw_nil (beh_next rest3)
      · exact sw_nil (beh_next rest3)
    · exact sw_nil (beh_next rest3)
  have rest1 : SW c (k + 5) (fScope (topAt 56)) ((fBody (topAt 56)).drop 1) ([("types" : Str), "errors", "op", "x", "y", "place"].zip ([tysV kn, .ref W.er, .str op, ND o1 p1 (tyK kd1) k1 v1, ND o2 p2 (tyK kd2) k2 v2, .int p] ++ [])) (PS W src base s) (retP Q) := by
    refine sw_cons ?_
    trivial
    refine if_d (fun e1 => ?_) (fun e1 => ?_)
    · trivial
      refine if_d (fun e2 => ?_) (fun e2 => ?_)
      · trivial
        refine if_d (fun e3 => ?_) (fun e3 => ?_)
        · trivial
          refine ew_callG pk.fbinarynode.g pk.fbinarynode.k ?_
          trivial
          refine ow_addstr (by rw [sizeLine_eq]; have : ("s" : Str).length = 1 := rfl; lia) ?_
          trivial
          exact (bn hbo.2.2.2.1 hbo.2.2.2.2).cw
        · exact sw_nil (beh_next rest2)
      · exact sw_nil (beh_next rest2)
    · exact sw_nil (beh_next rest2)
  refine fn_intro pk.fbinary.d rfl ?_
  refine sw_cons ?_
  trivial
  refine if_d (fun e1 => ?_) (fun e1 => ?_)
  · trivial
    refine if_d (fun e2 => ?_) (fun e2 => ?_)
    · trivial
      refine ew_callG pk.fwrong.g pk.fwrong.k ?_
      trivial
      exact wr.cw
    · trivial
      refine if_d (fun e3 => ?_) (fun e3 => ?_)
      · trivial
        refine ew_callG pk.fwrong.g pk.fwrong.k ?_
        trivial
        exact wr.cw
      · trivial
        refine ew_callG pk.fbinarynode.g pk.fbinarynode.k ?_
        trivial
        exact (bn hbo.2.1 hbo.2.2.1).cw
  · trivial
    refine if_d (fun e2 => ?_) (fun e2 => ?_)
    · trivial
      refine if_d (fun e2 => ?_) (fun e2 => ?_)
      · trivial
        refine ew_callG pk.fwrong.g pk.fwrong.k ?_
        trivial
        exact wr.cw
      · trivial
        refine if_d (fun e3 => ?_) (fun e3 => ?_)
        · trivial
          refine ew_callG pk.fwrong.g pk.fwrong.k ?_
          trivial
          exact wr.cw
        · trivial
          refine ew_callG pk.fbinarynode.g pk.fbinarynode.k ?_
          trivial
          exact (bn hbo.2.1 hbo.2.2.1).cw
    · exact sw_nil (beh_next rest1)
end
section
variable {W : PAd} {src : Str} {base : MH} {s : PSt} {k : Nat} {Q : MV → MH → Prop}
theorem form_ne {kd : Kd} {x : Str} (h : x ∉ (["integer", "set", "boolean"] : List Str)) : ¬ kd.form = x := by
  intro e
  apply h
  rw [← e]
  cases kd <;> decide +kernel
theorem istext_w {σ : MH} {kd : Kd} (q : Q (.bool false) σ) : FW c (k + 1) (.ref (pk.fa 10)) [tyK kd] σ Q := by
  have h1 : ¬ kd.form = "string" := form_ne (by decide +kernel)
  have h2 : ¬ kd.form = "array" := form_ne (by decide +kernel)
  refine fn_intro pk.fistext.d rfl ?_
  refine sw_cons ?_
  trivial
  exact q
theorem referred_w {σ : MH} {o1 o2 : Str} {p1 p2 : Int} {kd1 kd2 : Kd} {v1 v2 : MV} {k1 k2 : List MV} (h1 : ¬ o1 = "proc") (h2 : ¬ o2 = "proc") (q : Q (.str "bad_operands") σ) :
    FW c (k + 1) (.ref (pk.fa 66)) [ND o1 p1 (tyK kd1) k1 v1, ND o2 p2 (tyK kd2) k2 v2] σ Q := by
  refine fn_intro pk.freferred.d rfl ?_
  refine sw_cons ?_
  trivial
  refine s_for ?_
  trivial
  refine it_tup fun it hit => ?_
  refine for_item (nx_tup (updH_same ..) rfl) (lg_name rfl) (aw_name ?_)
  rw [updH_updH]
  refine sw_cons ?_
  trivial
  refine turn_next ?_
  refine for_item (nx_tup (updH_same ..) rfl) (lg_name rfl) (aw_name ?_)
  rw [updH_updH]
  refine sw_cons ?_
  trivial
  refine turn_next ?_
  refine for_end (nx_tupend (updH_same ..) (Nat.le_refl 2)) ?_
  rw [delH_updH hit]
  trivial
  have hf : ¬ kd1.form ∈ (["pointer", "proc", "nil"] : List Str) := by cases kd1 <;> decide +kernel
  refine if_dn (fun h => absurd h hf) (fun _ => ?_)
  trivial
  exact q
inductive CmpOK : Kd → Str → Str → Prop
  | i (op : Str) : op ∈ (["=", "#", "<", "<=", ">", ">="] : List Str) → CmpOK .i op "number"
  | s (op : Str) : op ∈ (["=", "#", "<=", ">="] : List Str) → CmpOK .s op "set"
theorem compared_w {σ : MH} {o1 o2 op kind : Str} {p1 p2 : Int} {kd : Kd} {v1 v2 : MV} {k1 k2 : List MV} (h : CmpOK kd op kind) (q : Q (.str kind) σ) :
    FW c (k + 2) (.ref (pk.fa 65)) [.str op, ND o1 p1 (tyK kd) k1 v1, ND o2 p2 (tyK kd) k2 v2] σ Q := by
  refine fn_intro pk.fcompared.d rfl ?_
  refine sw_cons ?_
  trivial
  have rest : ∀ eq : Bool, (eq = true ∨ op ∈ (["<=", ">="] : List Str) ∨ kd = .i) → SW c (k + 1) (fScope (topAt 65)) ((fBody (topAt 65)).drop 3) (setM "equality" (.bool eq) (setM "other" (tyK kd) (setM "one" (tyK kd) ([("op" : Str), "x", "y"].zip ([.str op, ND o1 p1 (tyK kd) k1 v1, ND o2 p2 (tyK kd) k2 v2] ++ []))))) σ (retP Q) := by
    intro eq heq
    refine sw_cons ?_
    trivial
    refine ew_callG pk.fisinteger.g pk.fisinteger.k ?_
    trivial
    refine FW.cw (isint_w ?_)
    trivial
    cases h with
    | i _ hop =>
      (try (refine if_dt rfl ?_; trivial))
      refine ew_callG pk.fisinteger.g pk.fisinteger.k ?_
      trivial
      refine FW.cw (isint_w ?_)
      trivial
      exact q
    | s _ hop =>
      trivial
      (try (refine if_df (by decide +kernel) ?_; trivial))
      (try (refine if_df (by decide +kernel) ?_; trivial))
      (try (refine if_df (by decide +kernel) ?_; trivial))
      (try (refine if_dt (by decide +kernel) ?_; trivial))
      (try (refine if_dt (by decide +kernel) ?_; trivial))
      cases eq with
      | true =>
        trivial
        exact q
      | false =>
        have hop2 : op ∈ (["<=", ">="] : List Str) := by rcases heq with e | e | e <;> first | exact e | cases e
        trivial
        exact q
  refine if_d (fun e1 => ?_) (fun e1 => ?_)
  · exact beh_next (rest true (.inl rfl))
  · refine EW.mono (Q := fun v σ' => v = .bool (decide (op = "#")) ∧ σ' = σ) ?_ fun v σ' ⟨ev, eσ⟩ => ?_
    · trivial
      rfl
    subst ev eσ
    by_cases e2 : op = "#"
    · rw [decide_eq_true e2]
      exact beh_next (rest true (.inl rfl))
    · rw [decide_eq_false e2]
      refine beh_next (rest false ?_)
      cases h with
      | i _ hop => exact .inr (.inr rfl)
      | s _ hop =>
        simp only [List.mem_cons, List.not_mem_nil, or_false] at hop
        refine .inr (.inl ?_)
        simp only [List.mem_cons, List.not_mem_nil, or_false]
        rcases hop with e | e | e | e
        · exact absurd e e1
        · exact absurd e e2
        · exact .inl e
        · exact .inr e
theorem comparedd_w {σ : MH} {o1 o2 op : Str} {p1 p2 : Int} {kd1 kd2 : Kd} {v1 v2 : MV} {k1 k2 : List MV} (h1 : ¬ o1 = "proc") (h2 : ¬ o2 = "proc") (q : ∀ kind, Q (.str kind) σ) :
    FW c (k + 2) (.ref (pk.fa 65)) [.str op, ND o1 p1 (tyK kd1) k1 v1, ND o2 p2 (tyK kd2) k2 v2] σ Q := by
  refine fn_intro pk.fcompared.d rfl ?_
  refine sw_cons ?_
  trivial
  have nc1 : ¬ kd1.form = "char" := form_ne (by decide +kernel)
  have rest6 : ∀ eq : Bool, SW c (k + 1) (fScope (topAt 65)) ((fBody (topAt 65)).drop 7) (setM "equality" (.bool eq) (setM "other" (tyK kd2) (setM "one" (tyK kd1) ([("op" : Str), "x", "y"].zip ([.str op, ND o1 p1 (tyK kd1) k1 v1, ND o2 p2 (tyK kd2) k2 v2] ++ []))))) σ (retP Q) := by
    intro eq
    refine sw_cons ?_
    trivial
    refine ew_callG pk.fistext.g pk.fistext.k ?_
    trivial
    refine FW.cw (istext_w ?_)
    trivial
    cases eq with
    | true =>
      trivial
      rw [Bool.not_true]
      trivial
      refine ew_callG pk.freferred.g pk.freferred.k ?_
      trivial
      exact (referred_w h1 h2 (q _)).cw
    | false =>
      trivial
      rw [Bool.not_false]
      trivial
      exact q _
  have rest5 : ∀ eq : Bool, SW c (k + 1) (fScope (topAt 65)) ((fBody (topAt 65)).drop 6) (setM "equality" (.bool eq) (setM "other" (tyK kd2) (setM "one" (tyK kd1) ([("op" : Str), "x", "y"].zip ([.str op, ND o1 p1 (tyK kd1) k1 v1, ND o2 p2 (tyK kd2) k2 v2] ++ []))))) σ (retP Q) := by
    intro eq
    refine sw_cons ?_
    trivial
    refine if_d (fun e1 => ?_) (fun e1 => ?_)
    · trivial
      refine if_d (fun e2 => ?_) (fun e2 => ?_)
      · trivial
        cases eq with
        | true =>
          trivial
          exact q _
        | false =>
          trivial
          refine if_d (fun e3 => ?_) (fun e3 => ?_)
          · trivial
            exact q _
          · trivial
            exact q _
      · exact sw_nil (beh_next (rest6 eq))
    · exact sw_nil (beh_next (rest6 eq))
  have rest4 : ∀ eq : Bool, SW c (k + 1) (fScope (topAt 65)) ((fBody (topAt 65)).drop 5) (setM "equality" (.bool eq) (setM "other" (tyK kd2) (setM "one" (tyK kd1) ([("op" : Str), "x", "y"].zip ([.str op, ND o1 p1 (tyK kd1) k1 v1, ND o2 p2 (tyK kd2) k2 v2] ++ []))))) σ (retP Q) := by
    intro eq
    refine sw_cons ?_
    trivial
    refine if_d (fun e1 => ?_) (fun e1 => ?_)
    · trivial
      refine if_d (fun e2 => ?_) (fun e2 => ?_)
      · trivial
        cases eq with
        | true =>
          trivial
          exact q _
        | false =>
          trivial
          exact q _
      · exact sw_nil (beh_next (rest5 eq))
    · exact sw_nil (beh_next (rest5 eq))
  have rest3 : ∀ eq : Bool, SW c (k + 1) (fScope (topAt 65)) ((fBody (topAt 65)).drop 4) (setM "equality" (.bool eq) (setM "other" (tyK kd2) (setM "one" (tyK kd1) ([("op" : Str), "x", "y"].zip ([.str op, ND o1 p1 (tyK kd1) k1 v1, ND o2 p2 (tyK kd2) k2 v2] ++ []))))) σ (retP Q) := by
    intro eq
    refine sw_cons ?_
    refine s_if ?_
    refine tw_and ?_
    refine tw_cmp (hm := by with_unfolding_all rfl) (Nu.EW.mono (Q := fun v σ' => v = .str kd1.form ∧ σ' = σ) ?_ fun v σ' ⟨ev, eσ⟩ => ?_)
    · trivial
      rfl
    subst ev eσ
    refine ew_str (ow_eqstr (qb_ ?_))
    refine if_df nc1 ?_
    refine if_f ?_
    exact sw_nil (beh_next (rest4 eq))
  have rest2 : ∀ eq : Bool, SW c (k + 1) (fScope (topAt 65)) ((fBody (topAt 65)).drop 3) (setM "equality" (.bool eq) (setM "other" (tyK kd2) (setM "one" (tyK kd1) ([("op" : Str), "x", "y"].zip ([.str op, ND o1 p1 (tyK kd1) k1 v1, ND o2 p2 (tyK kd2) k2 v2] ++ []))))) σ (retP Q) := by
    intro eq
    refine sw_cons ?_
    trivial
    refine ew_callG pk.fisinteger.g pk.fisinteger.k ?_
    trivial
    refine FW.cw (isint_w ?_)
    refine ⟨_, rfl, ?_⟩
    refine if_d (fun e1 => ?_) (fun e1 => ?_)
    · trivial
      refine ew_callG pk.fisinteger.g pk.fisinteger.k ?_
      trivial
      refine FW.cw (isint_w ?_)
      refine ⟨_, rfl, ?_⟩
      refine if_d (fun e2 => ?_) (fun e2 => ?_)
      · trivial
        exact q _
      · exact sw_nil (beh_next (rest3 eq))
    · exact if_f (sw_nil (beh_next (rest3 eq)))
  refine if_d (fun e1 => ?_) (fun e1 => ?_)
  · exact beh_next (rest2 true)
  · refine EW.mono (Q := fun v σ' => v = .bool (decide (op = "#")) ∧ σ' = σ) ?_ fun v σ' ⟨ev, eσ⟩ => ?_
    · trivial
      rfl
    subst ev eσ
    exact beh_next (rest2 _)
end
section
variable {W : PAd} {src : Str} {base : MH} {s : PSt} {k : Nat} {Q : MV → MH → Prop}
theorem member_w {σ : MH} {er : MV} {kn : Addr} {o1 o2 : Str} {p p1 p2 : Int} {v1 v2 : MV} {k1 k2 : List MV} (h1 : ¬ o1 = "const") (q : Q (ND "IN" p (tyK .b) [ND o1 p1 (tyK .i) k1 v1, ND o2 p2 (tyK .s) k2 v2] .none) σ) :
    FW c (k + 3) (.ref (pk.fa 70)) [tysV kn, er, ND o1 p1 (tyK .i) k1 v1, ND o2 p2 (tyK .s) k2 v2, .int p] σ Q := by
  refine fn_intro pk.fmember.d rfl ?_
  refine sw_cons ?_
  trivial
  refine ew_callG pk.fisinteger.g pk.fisinteger.k ?_
  trivial
  refine FW.cw (isint_w ?_)
  trivial
  (try (refine if_df (by decide +kernel) ?_; trivial))
  refine ew_callG pk.cNode.g pk.cNode.k ?_
  trivial
  refine ew_flist ?_
  trivial
  refine node_w ?_
  trivial
  exact q
theorem memberd_w (ok : POKs W src base) {kn : Addr} {o1 o2 : Str} {p p1 p2 : Int} {kd1 kd2 : Kd} {v1 v2 : MV} {k1 k2 : List MV} (hn : ¬ o1 = "const" ∨ ¬ o2 = "const") (hv : o1 = "const" → ∃ i, v1 = .int i)
    (h1 : s.rows.length ≤ 5000) (h2 : s.ps.length ≤ 5000) (q : ∀ nd' s', Sane nd' → Mk s s' → Q nd' (PS W src base s')) :
    FW c (k + 4) (.ref (pk.fa 70)) [tysV kn, .ref W.er, ND o1 p1 (tyK kd1) k1 v1, ND o2 p2 (tyK kd2) k2 v2, .int p] (PS W src base s) Q := by
  have qm : ∀ kd p i p' code, Q (ND "const" p (tyK kd) [] (.int i)) (PS W src base (markSt p' code s)) := fun kd p i p' code => q _ _ (.const kd p i) (.inr ⟨_, _, rfl⟩)
  have qn : Q (ND "IN" p (tyK .b) [ND o1 p1 (tyK kd1) k1 v1, ND o2 p2 (tyK kd2) k2 v2] .none) (PS W src base s) := q _ _ (.other _ _ _ _ (by decide +kernel) (by decide +kernel)) (.inl rfl)
  have rest : SW c (k + 3) (fScope (topAt 70)) ((fBody (topAt 70)).drop 1) ([("types" : Str), "errors", "x", "y", "place"].zip ([tysV kn, .ref W.er, ND o1 p1 (tyK kd1) k1 v1, ND o2 p2 (tyK kd2) k2 v2, .int p] ++ [])) (PS W src base s) (retP Q) := by
    refine sw_cons ?_
    trivial
    refine if_d (fun e1 => ?_) (fun e1 => ?_)
    · obtain ⟨i, rfl⟩ := hv e1
      have e2 : ¬ o2 = "const" := hn.elim (fun x => absurd e1 x) id
      trivial
      refine if_d (fun e3 => ?_) (fun e3 => ?_)
      · trivial
        refine FW.cw (mark_w ok h1 h2 ?_)
        trivial
        refine ew_callG pk.fconst.g pk.fconst.k ?_
        trivial
        refine FW.cw (const_w ?_)
        trivial
        exact qm _ _ _ _ _
      · trivial
        refine if_d (fun e4 => ?_) (fun e4 => ?_)
        · trivial
          refine FW.cw (mark_w ok h1 h2 ?_)
          trivial
          refine ew_callG pk.fconst.g pk.fconst.k ?_
          trivial
          refine FW.cw (const_w ?_)
          trivial
          exact qm _ _ _ _ _
        · trivial
          refine ew_callG pk.cNode.g pk.cNode.k ?_
          trivial
          refine ew_flist ?_
          trivial
          refine node_w ?_
          trivial
          exact qn
    · trivial
      refine ew_callG pk.cNode.g pk.cNode.k ?_
      trivial
      refine ew_flist ?_
      trivial
      refine node_w ?_
      trivial
      exact qn
  refine fn_intro pk.fmember.d rfl ?_
  refine sw_cons ?_
  trivial
  refine ew_callG pk.fisinteger.g pk.fisinteger.k ?_
  trivial
  refine FW.cw (isint_w ?_)
  trivial
  refine if_dn (fun e1 => ?_) (fun e1 => ?_)
  · trivial
    refine if_d (fun e2 => ?_) (fun e2 => ?_)
    · trivial
      refine FW.cw (mark_w ok h1 h2 ?_)
      trivial
      refine ew_callG pk.fconst.g pk.fconst.k ?_
      trivial
      refine FW.cw (const_w ?_)
      trivial
      exact qm _ _ _ _ _
    · exact sw_nil (beh_next rest)
  · trivial
    refine FW.cw (mark_w ok h1 h2 ?_)
    trivial
    refine ew_callG pk.fconst.g pk.fconst.k ?_
    trivial
    refine FW.cw (const_w ?_)
    trivial
    exact qm _ _ _ _ _
theorem rel_w {σ : MH} {er : MV} {kn : Addr} {kd1 kd2 : Kd} {op nm o1 o2 : Str} (hr : RelW kd1 kd2 op nm) {p p1 p2 : Int} {v1 v2 : MV} {k1 k2 : List MV} (h1 : ¬ o1 = "const") (q : Q (ND nm p (tyK .b) [ND o1 p1 (tyK kd1) k1 v1, ND o2 p2 (tyK kd2) k2 v2] .none) σ) :
    FW c (k + 4) (.ref (pk.fa 67)) [tysV kn, er, .str op, ND o1 p1 (tyK kd1) k1 v1, ND o2 p2 (tyK kd2) k2 v2, .int p] σ Q := by
  refine fn_intro pk.frelation.d rfl ?_
  refine sw_cons ?_
  trivial
  by_cases hin : op = "IN"
  · cases hr with
    | isin =>
      trivial
      refine ew_callG pk.fmember.g pk.fmember.k ?_
      trivial
      refine FW.cw (member_w h1 ?_)
      trivial
      exact q
    | i _ hop => subst hin; exact absurd hop (by decide +kernel)
    | s _ hop => subst hin; exact absurd hop (by decide +kernel)
    | sle => exact absurd hin (by decide +kernel)
    | sge => exact absurd hin (by decide +kernel)
  · have nc1 : ¬ kd1.form = "char" := form_ne (by decide +kernel)
    have nc2 : ¬ kd2.form = "char" := form_ne (by decide +kernel)
    trivial
    refine ew_callG pk.fcompared.g pk.fcompared.k ?_
    trivial
    cases hr with
    | isin => exact absurd rfl hin
    | i _ hop =>
      refine FW.cw (compared_w (.i op hop) ?_)
      trivial
      refine ew_callG pk.cNode.g pk.cNode.k ?_
      trivial
      refine ew_flist ?_
      trivial
      refine node_w ?_
      trivial
      exact q
    | s _ hop =>
      refine FW.cw (compared_w (.s op ?_) ?_)
      · simp only [List.mem_cons, List.not_mem_nil, or_false] at hop ⊢
        rcases hop with e | e
        · exact .inl e
        · exact .inr (.inl e)
      have hop2 : ¬ op ∈ (["<=", ">="] : List Str) := by
        have : ∀ op ∈ (["=", "#"] : List Str), ¬ op ∈ (["<=", ">="] : List Str) := by decide +kernel
        exact this op hop
      trivial
      refine ew_callG pk.cNode.g pk.cNode.k ?_
      trivial
      refine ew_flist ?_
      trivial
      refine node_w ?_
      trivial
      exact q
    | sle =>
      refine FW.cw (compared_w (.s _ (by decide +kernel)) ?_)
      trivial
      refine ow_addstr (by rw [sizeLine_eq]; decide) ?_
      trivial
      refine ew_callG pk.cNode.g pk.cNode.k ?_
      trivial
      refine ew_flist ?_
      trivial
      refine node_w ?_
      trivial
      exact q
    | sge =>
      refine FW.cw (compared_w (.s _ (by decide +kernel)) ?_)
      trivial
      refine ow_addstr (by rw [sizeLine_eq]; decide) ?_
      trivial
      refine ew_callG pk.cNode.g pk.cNode.k ?_
      trivial
      refine ew_flist ?_
      trivial
      refine node_w ?_
      trivial
      exact q
theorem reld_w (ok : POKs W src base) {kn : Addr} {op : Str} (hop : op ∈ (["=", "#", "<", "<=", ">", ">=", "IN"] : List Str)) {p : Int} {x y : MV} (hx : Sane x) (hy : Sane y) (hn : ∀ kd p i kd' p' j, x = ND "const" p (tyK kd) [] (.int i) → ¬ y = ND "const" p' (tyK kd') [] (.int j))
    (h1 : s.rows.length ≤ 5000) (h2 : s.ps.length ≤ 5000) (q : ∀ nd' s', Sane nd' → Mk s s' → Q nd' (PS W src base s')) :
    FW c (k + 5) (.ref (pk.fa 67)) [tysV kn, .ref W.er, .str op, x, y, .int p] (PS W src base s) Q := by
  have qm : ∀ kd p i p' code, Q (ND "const" p (tyK kd) [] (.int i)) (PS W src base (markSt p' code s)) := fun kd p i p' code => q _ _ (.const kd p i) (.inr ⟨_, _, rfl⟩)
  obtain ⟨o1, p1, kd1, k1, v1, rfl, np1, hv1⟩ : ∃ op1 p1 kd1 kids v, x = ND op1 p1 (tyK kd1) kids v ∧ ¬ op1 = "proc" ∧ (op1 = "const" → ∃ i, v = .int i ∧ kids = []) := by
    cases hx with
    | const kd p i => exact ⟨_, _, _, _, _, rfl, by decide +kernel, fun _ => ⟨_, rfl, rfl⟩⟩
    | other kd p kids v a b => exact ⟨_, _, _, _, _, rfl, b, fun e => absurd e a⟩
  obtain ⟨o2, p2, kd2, k2, v2, rfl, np2, hv2⟩ : ∃ op1 p1 kd1 kids v, y = ND op1 p1 (tyK kd1) kids v ∧ ¬ op1 = "proc" ∧ (op1 = "const" → ∃ i, v = .int i ∧ kids = []) := by
    cases hy with
    | const kd p i => exact ⟨_, _, _, _, _, rfl, by decide +kernel, fun _ => ⟨_, rfl, rfl⟩⟩
    | other kd p kids v a b => exact ⟨_, _, _, _, _, rfl, b, fun e => absurd e a⟩
  have hn2 : ¬ o1 = "const" ∨ ¬ o2 = "const" := by
    by_cases e1 : o1 = "const"
    · by_cases e2 : o2 = "const"
      · obtain ⟨i, rfl, rfl⟩ := hv1 e1
        obtain ⟨j, rfl, rfl⟩ := hv2 e2
        subst e1 e2
        exact absurd rfl (hn _ _ _ _ _ _ rfl)
      · exact .inr e2
    · exact .inl e1
  have nops : ∀ op ∈ (["=", "#", "<", "<=", ">", ">=", "IN"] : List Str), op.length ≤ 3 ∧ ¬ op = "const" ∧ ¬ op = "proc" ∧ ¬ (("s" : Str) ++ op) = "const" ∧ ¬ (("s" : Str) ++ op) = "proc" := by decide +kernel
  have hbo := nops op hop
  have nd : ∀ nm : Str, ¬ nm = "const" → ¬ nm = "proc" → Q (ND nm p (tyK .b) [ND o1 p1 (tyK kd1) k1 v1, ND o2 p2 (tyK kd2) k2 v2] .none) (PS W src base s) := fun nm a b => q _ _ (.other _ _ _ _ a b) (.inl rfl)
  have nc1 : ¬ kd1.form = "char" := form_ne (by decide +kernel)
  have nc2 : ¬ kd2.form = "char" := form_ne (by decide +kernel)
  refine fn_intro pk.frelation.d rfl ?_
  refine sw_cons ?_
  trivial
  refine if_d (fun e1 => ?_) (fun e1 => ?_)
  · trivial
    refine ew_callG pk.fmember.g pk.fmember.k ?_
    trivial
    exact (memberd_w ok hn2 (fun e => (hv1 e).imp fun _ x => x.1) h1 h2 q).cw
  trivial
  refine ew_callG pk.fcompared.g pk.fcompared.k ?_
  trivial
  refine FW.cw (comparedd_w np1 np2 fun kind => ?_)
  have rest : ∀ nm : Str, ¬ nm = "const" → ¬ nm = "proc" → SW c (k + 4) (fScope (topAt 67)) ((fBody (topAt 67)).drop 6) ([("types" : Str), "errors", "op", "x", "y", "place", "kind"].zip [tysV kn, .ref W.er, .str nm, ND o1 p1 (tyK kd1) k1 v1, ND o2 p2 (tyK kd2) k2 v2, .int p, .str kind]) (PS W src base s) (retP Q) := by
    intro nm a b
    have fin := nd nm a b
    refine sw_cons ?_
    trivial
    refine if_d (fun e1 => ?_) (fun e1 => ?_)
    · have e2 : ¬ o2 = "const" := hn2.elim (fun x => absurd e1 x) id
      trivial
      refine ew_callG pk.cNode.g pk.cNode.k ?_
      trivial
      refine ew_flist ?_
      trivial
      refine node_w ?_
      trivial
      exact fin
    · trivial
      refine ew_callG pk.cNode.g pk.cNode.k ?_
      trivial
      refine ew_flist ?_
      trivial
      refine node_w ?_
      trivial
      exact fin
  trivial
  refine if_d (fun e2 => ?_) (fun e2 => ?_)
  · trivial
    refine FW.cw (mark_w ok h1 h2 ?_)
    trivial
    refine ew_callG pk.fconst.g pk.fconst.k ?_
    trivial
    refine FW.cw (const_w ?_)
    trivial
    exact qm _ _ _ _ _
  trivial
  refine if_d (fun e3 => ?_) (fun e3 => ?_)
  · trivial
    refine if_d (fun e4 => ?_) (fun e4 => ?_)
    · trivial
      refine ow_addstr (by rw [sizeLine_eq]; have : ("s" : Str).length = 1 := rfl; lia) ?_
      exact beh_next (sw_nil (beh_next (rest _ hbo.2.2.2.1 hbo.2.2.2.2)))
    · refine sw_nil (beh_next ?_)
      exact rest op hbo.2.1 hbo.2.2.1
  · refine sw_nil (beh_next ?_)
    exact rest op hbo.2.1 hbo.2.2.1
end
structure POKv (W : PAd) (base : MH) : Prop where
  ss : base W.ss = some (.inst (pk.ca 137) W.ssd)
  ssd : ∃ fs, base W.ssd = some (.ns fs) ∧ getF "stack" fs = some (.ref W.stk) ∧ getF "find" fs = none
  stk : base W.stk = some (.list [.ref W.g0, .ref W.g1])
  g1 : base W.g1 = some (.inst (pk.ca 136) W.g1d)
  g1d : ∃ fs, base W.g1d = some (.ns fs) ∧ getF "names" fs = some (.ref W.nms)
  nms : ∃ fs, base W.nms = some (.sd fs) ∧ ∀ kd alt, getF (varNames kd alt) fs = some (.ref (W.vo kd alt))
  vo : ∀ kd alt, base (W.vo kd alt) = some (.inst (pk.ca 133) (W.vd kd alt))
  vd : ∀ kd alt, ∃ fs, base (W.vd kd alt) = some (.ns fs) ∧ getF "name" fs = some (.str (varNames kd alt)) ∧ getF "kind" fs = some (.str "var") ∧ getF "type" fs = some (tyK kd) ∧ getF "narrowed" fs = some .none
section
variable {W : PAd} {src : Str} {base : MH} {s : PSt} {k : Nat} {Q : MV → MH → Prop}
theorem ga_vo (ok : POKs W src base) (ov : POKv W base) {kd : Kd} {alt : Bool} : GA c k (.ref (W.vo kd alt)) (PS W src base s) "name" (.str (varNames kd alt)) ∧ GA c k (.ref (W.vo kd alt)) (PS W src base s) "kind" (.str "var") ∧
    GA c k (.ref (W.vo kd alt)) (PS W src base s) "type" (tyK kd) ∧ GA c k (.ref (W.vo kd alt)) (PS W src base s) "narrowed" .none := by
  obtain ⟨fs, h, h1, h2, h3, h4⟩ := ov.vd kd alt
  have n : ∀ x ∈ (["name", "kind", "type", "narrowed"] : List Str), x ∈ (["name", "kind", "type", "place", "exported", "readonly", "level", "module", "value", "slot", "offset", "number", "isparam", "narrowed"] : List Str) := by decide +kernel
  exact ⟨ga_inst pk.cObj.d (ps_at ok (ov.vo kd alt)) (ps_at ok h) (n _ (.head _)) h1, ga_inst pk.cObj.d (ps_at ok (ov.vo kd alt)) (ps_at ok h) (n _ (.tail _ (.head _))) h2,
    ga_inst pk.cObj.d (ps_at ok (ov.vo kd alt)) (ps_at ok h) (n _ (.tail _ (.tail _ (.head _)))) h3, ga_inst pk.cObj.d (ps_at ok (ov.vo kd alt)) (ps_at ok h) (n _ (.tail _ (.tail _ (.tail _ (.head _))))) h4⟩
theorem find_w (ok : POKs W src base) (ov : POKv W base) {kd : Kd} {alt : Bool} (q : Q (.ref (W.vo kd alt)) (PS W src base s)) : FW c (k + 2) (.ref (pk.ma 137 6)) [.ref W.ss, .str (varNames kd alt)] (PS W src base s) Q := by
  obtain ⟨f1, h1, h2, h3⟩ := ov.ssd
  obtain ⟨f2, h4, h5⟩ := ov.g1d
  obtain ⟨f3, h6, h7⟩ := ov.nms
  refine FW.drop ?_
  refine fn_intro pk.mScopes_find.d rfl ?_
  refine sw_cons ?_
  refine s_for ?_
  refine ew_callB pk.breversed rfl keeps_ty (by decide) ?_
  trivial
  refine ⟨_, ga_inst pk.cScopes.d (ps_at ok ov.ss) (ps_at ok h1) (.tail _ (.tail _ (.head _))) h2, ?_⟩
  trivial
  refine cw_reversed (la_ref (ps_at ok ov.stk)) fun it hit => ?_
  refine it_rev (updH_same ..) ?_
  have up : ∀ {a : Addr} {o o' : MO}, base a = some o → updH (PS W src base s) it o' a = some o := fun {a o o'} h => by rw [updH_ne (ne_of_fresh hit (ps_at ok h))]; exact ps_at ok h
  refine for_item (nx_rev (i := 1) (updH_same ..) (la_ref (up ov.stk)) rfl) (lg_name rfl) (aw_name ?_)
  rw [updH_updH]
  refine sw_cons ?_
  trivial
  refine ⟨_, ga_inst pk.cScope.d (up ov.g1) (up h4) (.tail _ (.tail _ (.head _))) h5, ?_⟩
  refine ow_insd (up h6) ?_
  rw [h7]
  trivial
  refine if_t ?_
  trivial
  refine ⟨_, ga_inst pk.cScope.d (up ov.g1) (up h4) (.tail _ (.tail _ (.head _))) h5, ?_⟩
  trivial
  refine ⟨st_sd (up h6), ow_getsd (up h6) (h7 kd alt) ?_⟩
  trivial
  exact ⟨_, sub_new hit, q⟩
theorem qualident_w (ok : POKs W src base) (ov : POKv W base) {kd : Kd} {alt : Bool} {p : Nat} {ts : List Tk} (h : Cur src s (⟨.id (varNames kd alt), p⟩ :: ts)) (q : ∀ s', Cur src s' ts → s'.rows = s.rows → s'.ps = s.ps → Q (.ref (W.vo kd alt)) (PS W src base s')) : FW c (k + 10) (.ref (pk.fa 99)) [.ref W.rd] (PS W src base s) Q := by
  obtain ⟨f1, i1, i2, i3⟩ := ov.ssd
  refine fn_intro pk.fqualident.d rfl ?_
  refine sw_cons ?_
  trivial
  refine FW.cw (name_w ok h rfl fun s' h1 h2 h3 => ?_)
  trivial
  refine if_f ?_
  trivial
  refine ⟨_, mi_inst pk.cScopes.d (ps_at ok ov.ss) (ps_at ok i1) (.tail _ (.tail _ (.tail _ (.tail _ (.head _))))) i3, keeps_ref (pk.cScopes.d.meth _ _ (.tail _ (.tail _ (.tail _ (.tail _ (.head _)))))).2.2, ?_⟩
  trivial
  refine FW.cw (find_w ok ov ?_)
  trivial
  refine if_f ?_
  trivial
  refine ⟨_, (ga_vo ok ov).2.1, ?_⟩
  trivial
  exact q s' h1 h2 h3
noncomputable abbrev vnode (W : PAd) (kd : Kd) (alt : Bool) (p : Nat) : MV := ND "var" p (tyK kd) [] (.ref (W.vo kd alt))
theorem varnode_w (ok : POKs W src base) (ov : POKv W base) {kd : Kd} {alt : Bool} {p : Nat} (q : Q (vnode W kd alt p) (PS W src base s)) : FW c (k + 3) (.ref (pk.fa 101)) [.ref (W.vo kd alt), .int p] (PS W src base s) Q := by
  refine fn_intro pk.fvariablenode.d rfl ?_
  refine sw_cons ?_
  trivial
  refine ⟨_, (ga_vo ok ov).2.2.2, ?_⟩
  trivial
  refine if_t ?_
  trivial
  refine ew_callG pk.cNode.g pk.cNode.k ?_
  trivial
  refine ⟨_, (ga_vo ok ov).2.2.1, ?_⟩
  trivial
  refine ew_flist ?_
  trivial
  refine node_w ?_
  trivial
  exact q
theorem objnode_w (ok : POKs W src base) (ov : POKv W base) {kd : Kd} {alt : Bool} {p : Nat} (q : Q (vnode W kd alt p) (PS W src base s)) : FW c (k + 4) (.ref (pk.fa 100)) [.ref W.rd, .ref (W.vo kd alt), .int p] (PS W src base s) Q := by
  refine fn_intro pk.fobjectnode.d rfl ?_
  refine sw_cons ?_
  trivial
  refine ⟨_, (ga_vo ok ov).2.1, ?_⟩
  trivial
  refine ⟨_, (ga_vo ok ov).2.1, ?_⟩
  trivial
  refine ew_callG pk.fvariablenode.g pk.fvariablenode.k ?_
  trivial
  refine FW.cw (varnode_w ok ov ?_)
  trivial
  exact q
noncomputable def NoSel (ts : List Tk) : Prop := hk ts ∉ ([".", "[", "^", "("] : List Str)
theorem selectors_w (ok : POKs W src base) {nd e : MV} {ts : List Tk} (h : Cur src s ts) (hs : NoSel ts) (q : Q nd (PS W src base s)) : FW c (k + 2) (.ref (pk.fa 103)) [.ref W.rd, nd, e] (PS W src base s) Q := by
  have h1 : hk ts ≠ "." := fun e => hs (by rw [e]; exact .head _)
  have h2 : hk ts ≠ "[" := fun e => hs (by rw [e]; exact .tail _ (.head _))
  have h3 : hk ts ≠ "^" := fun e => hs (by rw [e]; exact .tail _ (.tail _ (.head _)))
  have h4 : ¬ hk ts = "(" := fun e => hs (by rw [e]; exact .tail _ (.tail _ (.tail _ (.head _))))
  refine fn_intro pk.fselectors.d rfl ?_
  refine sw_cons (s_while (ww_turn ?_))
  refine tw_val (ew_bool ⟨_, rfl, if_t (sw_cons ?_)⟩)
  trivial
  rw [h.tok]
  trivial
  refine FW.cw (skipn_w ok h h1 ?_)
  trivial
  refine FW.cw (skipn_w ok h h2 ?_)
  trivial
  refine FW.cw (skipn_w ok h h3 ?_)
  trivial
  refine FW.cw (at_w ok h ?_)
  trivial
  exact q
theorem designator_w (ok : POKs W src base) (ov : POKv W base) {kd : Kd} {alt : Bool} {p : Nat} {ts : List Tk} (h : Cur src s (⟨.id (varNames kd alt), p⟩ :: ts)) (hs : NoSel ts) {e : MV} (q : ∀ s', Cur src s' ts → s'.rows = s.rows → s'.ps = s.ps → Q (vnode W kd alt p) (PS W src base s')) : FW c (k + 11) (.ref (pk.fa 102)) [.ref W.rd, e] (PS W src base s) Q := by
  refine fn_intro pk.fdesignator.d rfl ?_
  refine sw_cons ?_
  trivial
  rw [h.tok]
  trivial
  refine ew_callG pk.fqualident.g pk.fqualident.k ?_
  trivial
  refine FW.cw (qualident_w ok ov h fun s' h1 h2 h3 => ?_)
  trivial
  refine if_f ?_
  trivial
  refine ew_callG pk.fobjectnode.g pk.fobjectnode.k ?_
  trivial
  refine FW.cw (objnode_w ok ov ?_)
  trivial
  refine ew_callG pk.fselectors.g pk.fselectors.k ?_
  trivial
  refine FW.cw (selectors_w ok h1 hs ?_)
  trivial
  exact q s' h1 h2 h3
theorem named_w (ok : POKs W src base) (ov : POKv W base) {kd : Kd} {alt : Bool} {p : Nat} {ts : List Tk} (h : Cur src s (⟨.id (varNames kd alt), p⟩ :: ts)) (hs : NoSel ts) (q : ∀ s', Cur src s' ts → s'.rows = s.rows → s'.ps = s.ps → Q (vnode W kd alt p) (PS W src base s')) : FW c (k + 12) (.ref (pk.fa 111)) [.ref W.rd] (PS W src base s) Q := by
  refine fn_intro pk.fnamedfactor.d rfl ?_
  refine sw_cons ?_
  trivial
  refine ew_callG pk.fdesignator.g pk.fdesignator.k ?_
  trivial
  refine ew_nameG pk.fexpression.g ?_
  trivial
  refine FW.cw (designator_w ok ov h hs fun s' h1 h2 h3 => ?_)
  unfold vnode at *
  have h4 : ¬ hk ts = "(" := fun e => hs (by rw [e]; exact .tail _ (.tail _ (.tail _ (.head _))))
  trivial
  refine FW.cw (at_w ok h1 ?_)
  trivial
  exact q s' h1 h2 h3
end
noncomputable def errAt (src : Str) (l : List Tk) : MV := .tup [.int (hp src l), .str "expected factor"]
structure Same (s s' : PSt) : Prop where
  rows : s'.rows = s.rows
  ps : s'.ps = s.ps
theorem Same.refl {s : PSt} : Same s s := ⟨rfl, rfl⟩
theorem Same.trans {a b d : PSt} (h : Same a b) (h' : Same b d) : Same a d := ⟨h'.rows.trans h.rows, h'.ps.trans h.ps⟩
noncomputable def DO : Nat → Nat
  | 0 => 1
  | n + 1 => DO n + 6
noncomputable def mulK : List Str := ["*", "/", "DIV", "MOD", "&"]
noncomputable def addK : List Str := ["+", "-", "OR"]
noncomputable def relK : List Str := ["=", "#", "<", "<=", ">", ">=", "IN"]
noncomputable def endK : List Str := [")", "eof"]
section
noncomputable def Out (W : PAd) (src : Str) (d : Nat) (kd : Kd) (pl : Bool) (tail : List Tk) (m : Nat) (s : PSt) (r : Res) (nd : MV) (s' : PSt) : Prop := match r with
  | .ok t => Same s s' ∧ ∃ b, Shp W d kd b nd t ∧ (pl = false → b = false)
  | .bad post => Dirty (errAt src (post ++ tail)) (m + 1) s' ∧ Sane nd
noncomputable def FacC (W : PAd) (src : Str) (base : MH) (n k : Nat) : Prop := ∀ {kd : Kd} {pl bh : Bool} {ts tail : List Tk} {r : Res} {s : PSt} {Q : MV → MH → Prop}, OpdP n kd pl bh ts r → Cur src s (ts ++ tail) → hk tail ∈ mulK ++ addK ++ relK ++ endK → (r.isOk ∨ Clean s) →
  (∀ s' nd, Cur src s' tail → Out W src (DO n) kd pl tail ts.length s r nd s' → Q nd (PS W src base s')) → FW c k (.ref (pk.fa 110)) [.ref W.rd] (PS W src base s) Q
noncomputable def ExpR (W : PAd) (src : Str) (base : MH) (n k : Nat) : Prop := ∀ {kd : Kd} {ts tail : List Tk} {r : Res} {s : PSt} {Q : MV → MH → Prop}, RowP (OpdP n) kd ts r → Cur src s (ts ++ tail) → hk tail ∈ endK → (r.isOk ∨ Clean s) →
  (∀ s' nd, Cur src s' tail → Out W src (DO n + 5) kd false tail ts.length s r nd s' → Q nd (PS W src base s')) → FW c k (.ref (pk.fa 106)) [.ref W.rd] (PS W src base s) Q
noncomputable def ExpL (W : PAd) (src : Str) (base : MH) (n k : Nat) : Prop := ∀ {ts tail : List Tk} {r : Res} {s : PSt} {Q : MV → MH → Prop}, RelP (OpdP n) ts r → Cur src s (ts ++ tail) → hk tail ∈ endK → (r.isOk ∨ Clean s) →
  (∀ s' nd, Cur src s' tail → Out W src (DO n + 6) .b false tail ts.length s r nd s' → Q nd (PS W src base s')) → FW c k (.ref (pk.fa 106)) [.ref W.rd] (PS W src base s) Q
theorem fol_start {ts : List Tk} (h : hk ts ∈ mulK ++ addK ++ relK ++ endK) : NoSel ts ∧ ∀ x ∈ (["ident", "int", "string", "NIL", "{", "(", "~"] : List Str), ¬ hk ts = x := by
  have : ∀ y ∈ mulK ++ addK ++ relK ++ endK, y ∉ ([".", "[", "^", "("] : List Str) ∧ ∀ x ∈ (["ident", "int", "string", "NIL", "{", "(", "~"] : List Str), ¬ y = x := by decide +kernel
  exact this _ h
theorem Out.pre {W : PAd} {src : Str} {d : Nat} {kd : Kd} {pl : Bool} {tail : List Tk} {m : Nat} {s s1 s' : PSt} {r : Res} {nd : MV} (h : Same s s1) (o : Out W src d kd pl tail m s1 r nd s') : Out W src d kd pl tail m s r nd s' := by
  cases r with
  | ok t => exact ⟨h.trans o.1, o.2⟩
  | bad p => exact o
theorem Clean.to {s s' : PSt} (c : Clean s) (h : Same s s') : Clean s' := c.same h.rows h.ps
theorem Dirty.to {h : MV} {n : Nat} {s s' : PSt} (c : Dirty h n s) (e : Same s s') : Dirty h n s' := c.same e.rows e.ps
theorem Mk.dirty {h : MV} {n : Nat} {s s' : PSt} (m : Mk s s') (d : Dirty h n s) : Dirty h (n + 1) s' := by
  rcases m with rfl | ⟨p, code, rfl⟩
  · exact d.le (Nat.le_succ _)
  · exact d.mark
theorem Mk.cur {src : Str} {s s' : PSt} {ts : List Tk} (m : Mk s s') (h : Cur src s ts) : Cur src s' ts := by
  rcases m with rfl | ⟨p, code, rfl⟩
  · exact h
  · exact h.mark
theorem DO_pos (n : Nat) : 1 ≤ DO n := by cases n <;> simp [DO]
/-- a row in brackets comes to what the row comes to -/
theorem out_par {W : PAd} {src : Str} {d d' : Nat} {kd : Kd} {pl : Bool} {tail : List Tk} {m m' p' : Nat} {s s' s'' : PSt} {r : Res} {nd : MV} (hd : d ≤ d') (hm : m ≤ m') (o : Out W src d kd false (⟨.sym ")", p'⟩ :: tail) m s r nd s') (h : Same s' s'') : Out W src d' kd pl tail m' s (r.post [⟨.sym ")", p'⟩]) nd s'' := by
  cases r with
  | ok t =>
    obtain ⟨h1, b, h2, h3⟩ := o
    have := h3 rfl; subst this
    exact ⟨h1.trans h, false, h2.le hd, fun _ => rfl⟩
  | bad post =>
    obtain ⟨h1, h2⟩ := o
    refine ⟨?_, h2⟩
    rw [List.append_assoc]
    exact (h1.le (by lia)).to h
theorem par_w {W : PAd} {src : Str} {base : MH} (ok : POKs W src base) {k : Nat} {s : PSt} {Q : MV → MH → Prop} {p p' : Nat} {ts1 tail : List Tk} {P : MV → PSt → Prop} (hc : Cur src s (⟨.sym "(", p⟩ :: (ts1 ++ ⟨.sym ")", p'⟩ :: tail)))
    (hE : ∀ s1, Cur src s1 (ts1 ++ ⟨.sym ")", p'⟩ :: tail) → Same s s1 → FW c (k + 12) (.ref (pk.fa 106)) [.ref W.rd] (PS W src base s1) (fun nd σ => ∃ s', σ = PS W src base s' ∧ Cur src s' (⟨.sym ")", p'⟩ :: tail) ∧ P nd s'))
    (q : ∀ nd s' s'', P nd s' → Cur src s'' tail → Same s' s'' → Q nd (PS W src base s'')) : FW c (k + 13) (.ref (pk.fa 110)) [.ref W.rd] (PS W src base s) Q := by
  refine fn_intro pk.ffactor.d rfl ?_
  refine sw_cons ?_
  trivial
  rw [hc.tok, show hk (⟨.sym "(", p⟩ :: (ts1 ++ ⟨.sym ")", p'⟩ :: tail)) = "(" from rfl]
  trivial
  refine FW.cw (step_w ok hc fun s1 h1 h2 h3 => ?_)
  trivial
  refine ew_callG pk.fexpression.g pk.fexpression.k ?_
  trivial
  refine FW.cw (FW.mono (hE s1 h1 ⟨h2, h3⟩) fun nd σ ⟨s', e, hc', hP⟩ => ?_)
  subst e
  trivial
  refine FW.cw (expect_w ok hc' fun s2 g1 g2 g3 => ?_)
  trivial
  exact q _ _ _ hP g1 ⟨g2, g3⟩
theorem not_w {W : PAd} {src : Str} {base : MH} (ok : POKs W src base) {k : Nat} {s : PSt} {Q : MV → MH → Prop} {p : Nat} {ts1 tail : List Tk} {P : MV → PSt → Prop} (hc : Cur src s (⟨.sym "~", p⟩ :: (ts1 ++ tail)))
    (hE : ∀ s1, Cur src s1 (ts1 ++ tail) → Same s s1 → FW c (k + 12) (.ref (pk.fa 110)) [.ref W.rd] (PS W src base s1) (fun nd σ => ∃ s', σ = PS W src base s' ∧ P nd s'))
    (q : ∀ nd s', P nd s' → FW c (k + 12) (.ref (pk.fa 54)) [tysV W.kn, .ref W.er, .str "~", nd, .int p] (PS W src base s') Q) : FW c (k + 13) (.ref (pk.fa 110)) [.ref W.rd] (PS W src base s) Q := by
  refine fn_intro pk.ffactor.d rfl ?_
  refine sw_cons ?_
  trivial
  rw [hc.tok, show hk (⟨.sym "~", p⟩ :: (ts1 ++ tail)) = "~" from rfl, show hp src (⟨.sym "~", p⟩ :: (ts1 ++ tail)) = p from rfl]
  trivial
  refine FW.cw (step_w ok hc fun s1 h1 h2 h3 => ?_)
  trivial
  refine ew_callG pk.funary.g pk.funary.k ?_
  trivial
  refine ew_callG pk.ffactor.g pk.ffactor.k ?_
  trivial
  refine FW.cw (FW.mono (hE s1 h1 ⟨h2, h3⟩) fun nd σ ⟨s', e, hP⟩ => ?_)
  subst e
  trivial
  exact FW.cw (FW.mono (q _ _ hP) fun nd σ h => by trivial; exact h)
theorem factor_w {W : PAd} {src : Str} {base : MH} (ok : POKs W src base) (ov : POKv W base) {n k : Nat} (hn : NO n ≤ 4000) (hN : ∀ m, n = m + 1 → FacC W src base m (k + 12) ∧ ExpR W src base m (k + 12) ∧ ExpL W src base m (k + 12)) : FacC W src base n (k + 13) := by
  intro kd pl bh ts tail r s Q hO hc hf hcl q
  obtain ⟨hsel, hst⟩ := fol_start hf
  have var : ∀ {alt : Bool} {p : Nat}, Cur src s (⟨.id (varNames kd alt), p⟩ :: tail) → (∀ s', Cur src s' tail → s'.rows = s.rows → s'.ps = s.ps → Q (vnode W kd alt p) (PS W src base s')) → FW c (k + 13) (.ref (pk.fa 110)) [.ref W.rd] (PS W src base s) Q := by
    intro alt p hc q
    refine fn_intro pk.ffactor.d rfl ?_
    refine sw_cons ?_
    trivial
    rw [hc.tok]
    trivial
    (try (refine if_dt rfl ?_; trivial))
    refine ew_callG pk.fnamedfactor.g pk.fnamedfactor.k ?_
    trivial
    refine FW.cw (named_w ok ov hc hsel fun s' h1 h2 h3 => ?_)
    trivial
    exact q s' h1 h2 h3
  have num : ∀ {m p : Nat}, Cur src s (⟨.num m, p⟩ :: tail) → (∀ s', Cur src s' tail → s'.rows = s.rows → s'.ps = s.ps → Q (ND "const" p (tyK .i) [] (.int m)) (PS W src base s')) → FW c (k + 13) (.ref (pk.fa 110)) [.ref W.rd] (PS W src base s) Q := by
    intro m p hc q
    refine fn_intro pk.ffactor.d rfl ?_
    refine sw_cons ?_
    trivial
    rw [hc.tok]
    trivial
    (try (refine if_df (by show ¬ (("int" : Str) = "ident"); decide +kernel) ?_; trivial))
    (try (refine if_dt rfl ?_; trivial))
    refine FW.cw (step_w ok hc fun s' h1 h2 h3 => ?_)
    trivial
    refine ew_callG pk.fconst.g pk.fconst.k ?_
    trivial
    refine FW.cw (const_w ?_)
    trivial
    exact q s' h1 h2 h3
  have hole : Cur src s tail → Clean s → (∀ s', Cur src s' tail → Dirty (errAt src tail) 1 s' → Q (ND "const" (hp src tail) (tyK .i) [] (.int 0)) (PS W src base s')) → FW c (k + 13) (.ref (pk.fa 110)) [.ref W.rd] (PS W src base s) Q := by
    intro hc cl q
    have n1 := hst "ident" (by decide +kernel)
    have n2 := hst "int" (by decide +kernel)
    have n3 := hst "string" (by decide +kernel)
    have n4 := hst "NIL" (by decide +kernel)
    have n5 := hst "{" (by decide +kernel)
    have n6 := hst "(" (by decide +kernel)
    have n7 := hst "~" (by decide +kernel)
    refine fn_intro pk.ffactor.d rfl ?_
    refine sw_cons ?_
    trivial
    rw [hc.tok]
    trivial
    refine FW.cw (rdmark_w ok hc (by rw [cl.rows]; exact Nat.zero_le _) (by rw [cl.ps]; exact Nat.zero_le _) ?_)
    trivial
    refine ew_callG pk.fconst.g pk.fconst.k ?_
    trivial
    refine FW.cw (const_w ?_)
    trivial
    exact q _ hc.mark cl.mark
  have parC : ∀ {m p p' : Nat} {ts1 : List Tk} {r1 : Res} {kd1 : Kd} {d : Nat}, n = m + 1 → d ≤ DO n → Cur src s (⟨.sym "(", p⟩ :: (ts1 ++ ⟨.sym ")", p'⟩ :: tail)) → (r1.isOk ∨ Clean s) →
      (∀ {s : PSt} {Q : MV → MH → Prop}, Cur src s (ts1 ++ ⟨.sym ")", p'⟩ :: tail) → hk (⟨.sym ")", p'⟩ :: tail) ∈ endK → (r1.isOk ∨ Clean s) → (∀ s' nd, Cur src s' (⟨.sym ")", p'⟩ :: tail) → Out W src d kd1 false (⟨.sym ")", p'⟩ :: tail) ts1.length s r1 nd s' → Q nd (PS W src base s')) → FW c (k + 12) (.ref (pk.fa 106)) [.ref W.rd] (PS W src base s) Q) →
      (∀ s' nd, Cur src s' tail → Out W src (DO n) kd1 pl tail (ts1.length + 2) s (r1.post [⟨.sym ")", p'⟩]) nd s' → Q nd (PS W src base s')) → FW c (k + 13) (.ref (pk.fa 110)) [.ref W.rd] (PS W src base s) Q := by
    intro m p p' ts1 r1 kd1 d hm hd hc hcl hE q
    refine par_w ok (P := fun nd s' => Out W src d kd1 false (⟨.sym ")", p'⟩ :: tail) ts1.length s r1 nd s') hc (fun s1 hc1 hs1 => ?_) fun nd s' s'' hP hc2 hs2 => ?_
    · exact hE hc1 (List.Mem.head _) (hcl.imp id fun h => h.to hs1) fun s' nd hc' ho => ⟨s', rfl, hc', ho.pre hs1⟩
    · exact q _ _ hc2 (out_par hd (by lia) hP hs2)
  cases n with
  | zero =>
    cases hO with
    | var alt p => exact var hc fun s' h1 h2 h3 => q s' _ h1 ⟨⟨h2, h3⟩, false, .var _ _ _, fun _ => rfl⟩
    | num m p a b => exact num hc fun s' h1 h2 h3 => q s' _ h1 ⟨⟨h2, h3⟩, true, .num _ _ a b, fun h => by cases h⟩
    | hole => exact hole hc (hcl.resolve_left id) fun s' h1 h2 => q s' _ h1 ⟨h2, .const _ _ _⟩
    | not h => exact h.elim
    | par h => exact h.elim
    | parR h => exact h.elim
  | succ m =>
    obtain ⟨hF, hR, hL⟩ := hN m rfl
    cases hO with
    | var alt p => exact var hc fun s' h1 h2 h3 => q s' _ h1 ⟨⟨h2, h3⟩, false, (Shp.var (d := 0) _ _ _).le (DO_pos _), fun _ => rfl⟩
    | num i p a b => exact num hc fun s' h1 h2 h3 => q s' _ h1 ⟨⟨h2, h3⟩, true, (Shp.num (d := 0) _ _ a b).le (DO_pos _), fun h => by cases h⟩
    | hole => exact hole hc (hcl.resolve_left id) fun s' h1 h2 => q s' _ h1 ⟨h2, .const _ _ _⟩
    | @par kd1 pl1 bh1 p p' ts1 r1 h =>
      have hc' : Cur src s (⟨.sym "(", p⟩ :: (ts1 ++ ⟨.sym ")", p'⟩ :: tail)) := by simpa using hc
      have hcl' : r1.isOk ∨ Clean s := hcl.imp (fun h => by cases r1 <;> first | exact .intro | exact h) id
      exact parC rfl (by show DO m + 5 ≤ DO m + 6; lia) hc' hcl' (fun a b d e => hR h a b d e) fun s' nd h1 h2 => q s' nd h1 (by simpa using h2)
    | @parR pl1 bh1 p p' ts1 r1 h =>
      have hc' : Cur src s (⟨.sym "(", p⟩ :: (ts1 ++ ⟨.sym ")", p'⟩ :: tail)) := by simpa using hc
      have hcl' : r1.isOk ∨ Clean s := hcl.imp (fun h => by cases r1 <;> first | exact .intro | exact h) id
      exact parC rfl (Nat.le_refl (DO m + 6)) hc' hcl' (fun a b d e => hL h a b d e) fun s' nd h1 h2 => q s' nd h1 (by simpa using h2)
    | @not pl1 bh1 p ts1 r1 h =>
      have hlen := opd_toks _ _ _ _ _ _ h
      have hNO : NO (m + 1) = 8 * NO m + 11 := rfl
      have hcl' : r1.isOk ∨ Clean s := hcl.imp (fun h => by cases r1 <;> first | exact .intro | exact h) id
      refine not_w ok (P := fun nd s' => Cur src s' tail ∧ Out W src (DO m) .b false tail ts1.length s r1 nd s') hc (fun s1 hc1 hs1 => ?_) fun nd s' ⟨hc2, ho⟩ => ?_
      · exact hF h hc1 hf (hcl'.imp id fun h => h.to hs1) fun s' nd hc' ho => ⟨s', rfl, hc', ho.pre hs1⟩
      · cases r1 with
        | ok t =>
          obtain ⟨h1, b, h2, h3⟩ := ho
          have := h3 rfl; subst this
          obtain ⟨op1, p1, kids, v1, rfl, n1, n2⟩ := h2.shape
          refine (unary_w (k := k) .not n1 ?_).le (by lia)
          exact q s' _ hc2 ⟨h1, false, (Shp.un (by decide +kernel) h2).le (by show DO m + 1 ≤ DO m + 6; lia), fun _ => rfl⟩
        | bad post =>
          obtain ⟨h1, h2⟩ := ho
          refine (unaryd_w (k := k) ok h2 (Nat.le_trans h1.len (by lia)) (Nat.le_trans h1.ps (by lia)) fun nd' s'' hs hm => ?_).le (by lia)
          exact q s'' _ (hm.cur hc2) ⟨(hm.dirty h1).le (by simp), hs⟩
end
section
noncomputable def J (W : PAd) (h : MV) (s0 : PSt) (d : Nat) (kd : Kd) (n : Option Nat) (st : Option Nat) (s : PSt) (nd due : MV) : Prop := match st with
  | none => Same s0 s ∧ ∃ b, Shp W d kd b nd due ∧ (b = true → n = none)
  | some m => Dirty h m s ∧ Sane nd
noncomputable def Y (W : PAd) (h : MV) (s0 : PSt) (d : Nat) (kd : Kd) (n : Option Nat) (st st' : Option Nat) (s : PSt) (nd due : MV) : Prop := match st, st' with
  | none, none => Same s0 s ∧ ∃ b, Shp W d kd b nd due ∧ (b = true → n = some 0)
  | none, some m => Dirty h m s ∧ Sane nd
  | some _, some m => Dirty h m s ∧ ∃ b, Shp W d kd b nd due
  | some _, none => False
noncomputable def up1 : Option Nat → Option Nat
  | none => none
  | some m => some (m + 1)
noncomputable def cnt : Option Nat → Nat
  | none => 1
  | some m => m
theorem opsOf_bin {kd : Kd} {op : Str} (h : op ∈ opsOf kd) : op ∈ binOps := by
  have : ∀ kd : Kd, ∀ op ∈ opsOf kd, op ∈ binOps := by intro kd; cases kd <;> decide +kernel
  exact this kd op h
theorem opName_nm {kd : Kd} {op : Str} (h : op ∈ opsOf kd) : opName kd op ∈ nmL := by
  have : ∀ kd : Kd, ∀ op ∈ opsOf kd, opName kd op ∈ nmL := by intro kd; cases kd <;> decide +kernel
  exact this kd op h
theorem Shp.num_small {W : PAd} {d : Nat} {kd : Kd} {b : Bool} {x due : MV} (h : Shp W d kd b x due) {kd' : Kd} {p i : Int} (e : x = ND "const" p (tyK kd') [] (.int i)) : Small i := by
  cases h with
  | num m p h1 h2 =>
    unfold ND at e
    simp only [MV.finst.injEq, List.cons.injEq, Prod.mk.injEq, true_and, MV.int.injEq] at e
    exact ⟨m, h2, by have := e.2; simp at this; lia⟩
  | var kd alt p =>
    unfold ND at e
    simp only [MV.finst.injEq, List.cons.injEq, Prod.mk.injEq, true_and, MV.str.injEq] at e
    exact absurd e.1 (by decide +kernel)
  | un hn _ =>
    unfold ND at e
    simp only [MV.finst.injEq, List.cons.injEq, Prod.mk.injEq, true_and, MV.str.injEq] at e
    exact absurd e.1 (nm_ne hn).1
  | bin hn _ _ =>
    unfold ND at e
    simp only [MV.finst.injEq, List.cons.injEq, Prod.mk.injEq, true_and, MV.str.injEq] at e
    exact absurd e.1 (nm_ne hn).1
/-- what any whole node is made of -/
theorem Shp.shape2 {W : PAd} {d : Nat} {kd : Kd} {b : Bool} {x dx : MV} (h : Shp W d kd b x dx) : ∃ op p kids v, x = ND op p (tyK kd) kids v ∧ (op = "const" → b = true ∧ ∃ j : Int, v = .int j ∧ 0 < j) := by
  cases h with
  | var kd alt p => exact ⟨_, _, _, _, rfl, fun e => absurd e (by decide +kernel)⟩
  | num m p h1 h2 => exact ⟨_, _, _, _, rfl, fun _ => ⟨rfl, m, rfl, by lia⟩⟩
  | un hn _ => exact ⟨_, _, _, _, rfl, fun e => absurd e (nm_ne hn).1⟩
  | bin hn _ _ => exact ⟨_, _, _, _, rfl, fun e => absurd e (nm_ne hn).1⟩
theorem binJ {W : PAd} {src : Str} {base : MH} (ok : POKs W src base) {k : Nat} {h : MV} {s0 s1 s : PSt} {d : Nat} {kd : Kd} {n st st' : Option Nat} {x y due mv : MV} {Q : MV → MH → Prop} (hX : J W h s0 d kd n st s1 x due) (hY : Y W h s0 d kd n st st' s y mv)
    {op : Str} (hop : op ∈ opsOf kd) {p : Nat} (hb : cnt st' ≤ 4900) (q : ∀ nd s', (∀ n', J W h s0 (d + 1) kd n' (up1 st') s' nd (node (opName kd op) p kd.form [due, mv])) → (∀ tl, Cur src s tl → Cur src s' tl) → Q nd (PS W src base s')) :
    FW c (k + 6) (.ref (pk.fa 56)) [tysV W.kn, .ref W.er, .str op, x, y, .int p] (PS W src base s) Q := by
  have dirty : ∀ m, st' = some m → Dirty h m s → Sane x → Sane y → (∀ kd p i kd' p' j, x = ND "const" p (tyK kd) [] (.int i) → y = ND "const" p' (tyK kd') [] (.int j) → Small i ∨ Small j) → FW c (k + 6) (.ref (pk.fa 56)) [tysV W.kn, .ref W.er, .str op, x, y, .int p] (PS W src base s) Q := by
    intro m e hd hx hy hs
    subst e
    have hb : m ≤ 4900 := hb
    refine binaryd_w ok (opsOf_bin hop) hx hy hs (Nat.le_trans hd.len (by lia)) (Nat.le_trans hd.ps (by lia)) fun nd' s' h1 h2 => ?_
    exact q _ _ (fun _ => ⟨h2.dirty hd, h1⟩) fun tl ht => h2.cur ht
  rcases st with _ | st <;> rcases st' with _ | m
  · obtain ⟨_, b1, h1, e1⟩ := hX
    obtain ⟨hs, b2, h2, e2⟩ := hY
    obtain ⟨o1, p1, k1, v1, rfl, c1⟩ := h1.shape2
    obtain ⟨o2, p2, k2, v2, rfl, c2⟩ := h2.shape2
    refine (binary_w (k := k) hop ?_ (fun e => (c2 e).2) ?_).le (by lia)
    · by_cases a1 : o1 = "const"
      · right
        intro a2
        have x1 := e1 (c1 a1).1
        have x2 := e2 (c2 a2).1
        rw [x1] at x2; cases x2
      · exact .inl a1
    · exact q _ _ (fun _ => ⟨hs, false, .bin (opName_nm hop) h1 h2, fun h => by cases h⟩) fun _ h => h
  · exact dirty m rfl hY.1 hX.2.choose_spec.1.sane hY.2 fun _ _ _ _ _ _ a _ => .inl (hX.2.choose_spec.1.num_small a)
  · exact hY.elim
  · exact dirty m rfl hY.1 hX.2 hY.2.choose_spec.sane fun _ _ _ _ _ _ _ a => .inr (hY.2.choose_spec.num_small a)
noncomputable def I (src : Str) (tail : List Tk) (h : MV) (s0 : PSt) (bp : Option (List Tk)) (st : Option Nat) (its : List It) : Prop := match st with
  | none => badPost (.ok .none) its = bp ∧ oneBad (.ok .none) its ∧ ∀ post, bp = some post → errAt src (post ++ tail) = h ∧ Clean s0
  | some _ => bp ≠ none ∧ ∀ it ∈ its, it.r.isOk
theorem badPost_ok {a b : MV} {its : List It} : badPost (.ok a) its = badPost (.ok b) its := by cases its <;> rfl
theorem oneBad_ok {a b : MV} {its : List It} : oneBad (.ok a) its = oneBad (.ok b) its := by cases its <;> rfl
theorem facY {W : PAd} {src : Str} {base : MH} {n0 k : Nat} (hF : FacC W src base n0 k) {h : MV} {s0 s1 s : PSt} {d : Nat} (hd : DO n0 ≤ d) {kd : Kd} {n st : Option Nat} {bp : Option (List Tk)} {tail : List Tk} {it : It} {its : List It} {x due : MV} (hI : I src tail h s0 bp st (it :: its))
    (hO : OpdP n0 kd (n == some 0) true it.ts it.r) (hmv : ∀ t, it.r = .ok t → it.mv = t) (hJ : J W h s0 d kd n st s1 x due) (hs : Same s1 s) (hc : Cur src s (it.ts ++ (itsToks its ++ tail))) (hf : hk (itsToks its ++ tail) ∈ mulK ++ addK ++ relK ++ endK) {Q : MV → MH → Prop}
    (q : ∀ s' y st', Cur src s' (itsToks its ++ tail) → Y W h s0 d kd n st st' s' y it.mv → I src tail h s0 bp st' its → cnt st' + (itsToks its).length + 1 ≤ cnt st + (itsToks (it :: its)).length → Q y (PS W src base s')) : FW c k (.ref (pk.fa 110)) [.ref W.rd] (PS W src base s) Q := by
  have hlen : (itsToks (it :: its)).length = 1 + it.ts.length + (itsToks its).length := by simp [itsToks, It.toks]; lia
  have hpl : ∀ b : Bool, ((n == some 0) = false → b = false) → b = true → n = some 0 := fun b h1 h2 => by
    cases hn : (n == some 0) with
    | true => exact by simpa using hn
    | false => rw [h1 hn] at h2; cases h2
  cases st with
  | none =>
    obtain ⟨hs0, _⟩ := hJ
    obtain ⟨h1, h2, h3⟩ := hI
    cases hr : it.r with
    | ok t =>
      rw [hr] at hO
      have e := hmv t hr
      refine hF hO hc hf (.inl .intro) fun s' nd hc' ⟨hs', b, hb, hp⟩ => ?_
      refine q s' nd none hc' ⟨(hs0.trans hs).trans hs', b, by rw [e]; exact hb.le hd, hpl b hp⟩ ⟨?_, ?_, h3⟩ (by rw [hlen]; unfold cnt; dsimp only; lia)
      · rw [← h1]; show _ = badPost it.r its; rw [hr]; exact badPost_ok
      · have h2 : oneBad it.r its := h2
        rw [hr] at h2; rw [oneBad_ok (b := t)]; exact h2
    | bad p =>
      rw [hr] at hO
      have hb : bp = some (p ++ itsToks its) := by rw [← h1]; show badPost it.r its = _; rw [hr, badPost_bad]
      obtain ⟨e1, cl⟩ := h3 _ hb
      refine hF hO hc hf (.inr ((cl.to hs0).to hs)) fun s' nd hc' ⟨hd', hs'⟩ => ?_
      rw [← List.append_assoc, e1] at hd'
      refine q s' nd (some (it.ts.length + 1)) hc' ⟨hd', hs'⟩ ?_ (by rw [hlen]; unfold cnt; dsimp only; lia)
      have h2 : oneBad it.r its := h2
      rw [hr, oneBad_bad] at h2; exact ⟨by rw [hb]; simp, h2⟩
  | some m =>
    obtain ⟨hdm, _⟩ := hJ
    obtain ⟨hbp, hI⟩ : bp ≠ none ∧ ∀ x ∈ it :: its, x.r.isOk := hI
    have hok := hI it (.head _)
    cases hr : it.r with
    | ok t =>
      rw [hr] at hO
      have e := hmv t hr
      refine hF hO hc hf (.inl .intro) fun s' nd hc' ⟨hs', b, hb, hp⟩ => ?_
      exact q s' nd (some m) hc' ⟨(hdm.to hs).to hs', b, by rw [e]; exact hb.le hd⟩ ⟨hbp, fun x hx => hI x (.tail _ hx)⟩ (by rw [hlen]; unfold cnt; dsimp only; lia)
    | bad p => rw [hr] at hok; exact hok.elim
end
section
theorem op_class {kd : Kd} {op : Str} (h : op ∈ opsOf kd) : (op ∈ mulK ∧ lvOf op = 3) ∨ (¬ op ∈ mulK ∧ lvOf op = 1 ∧ op ∈ addK) := by
  have : ∀ kd : Kd, ∀ op ∈ opsOf kd, (op ∈ mulK ∧ lvOf op = 3) ∨ (¬ op ∈ mulK ∧ lvOf op = 1 ∧ op ∈ addK) := by intro kd; cases kd <;> decide +kernel
  exact this kd op h
theorem its_hk {O : OP} {kd : Kd} {n : Option Nat} {its : List It} (h : ItsP O kd n its) {tail : List Tk} (ht : hk tail ∈ mulK ++ addK ++ relK ++ endK) : hk (itsToks its ++ tail) ∈ mulK ++ addK ++ relK ++ endK := by
  cases h with
  | nil => exact ht
  | @cons _ it its h1 _ _ _ =>
    show it.op ∈ _
    simp only [List.mem_append]
    rcases op_class h1 with h | h
    · exact .inl (.inl (.inl h.1))
    · exact .inl (.inl (.inr h.2.2))
noncomputable def foldM (kd : Kd) (x : MV) (ms : List It) : MV := ms.foldl (fun x it => node (opName kd it.op) it.spot kd.form [x, it.mv]) x
noncomputable abbrev teB : List Stmt := fBody (topAt 109)
noncomputable abbrev teML (W : PAd) (x : MV) : Loc := [("rd", .ref W.rd), ("left", x)]
theorem term_loop {W : PAd} {src : Str} {base : MH} (ok : POKs W src base) {n0 k : Nat} (hF : FacC W src base n0 (k + 8)) {h : MV} {s0 : PSt} {kd : Kd} {bp : Option (List Tk)} {tail : List Tk} (hf : hk tail ∈ addK ++ relK ++ endK) {R : Fl → Loc → MH → Prop} :
    ∀ (its : List It) {s : PSt} {d : Nat} {n st : Option Nat} {x due : MV}, DO n0 ≤ d → I src tail h s0 bp st its → ItsP (OpdP n0) kd n its → J W h s0 d kd n st s x due → Cur src s (itsToks its ++ tail) → cnt st + (itsToks its).length ≤ 4900 →
      (∀ ms rs n' st' s' x', its = ms ++ rs → (∀ it ∈ ms, lvOf it.op = 3) → (rs = [] ∨ ∃ it r, rs = it :: r ∧ lvOf it.op = 1) → ItsP (OpdP n0) kd n' rs → I src tail h s0 bp st' rs → J W h s0 (d + ms.length) kd n' st' s' x' (foldM kd due ms) → Cur src s' (itsToks rs ++ tail) → cnt st' + (itsToks rs).length ≤ cnt st + (itsToks its).length → ((∀ n, J W h s0 d kd n st s x due) → ∀ n, J W h s0 (d + ms.length) kd n st' s' x' (foldM kd due ms)) → R .next (teML W x') (PS W src base s')) →
      WW c (k + 8) (fScope (topAt 109)) (whT (stA teB 1)) (whB (stA teB 1)) (teML W x) (PS W src base s) R
  | [], s, d, n, st, x, due, hd, hI, hP, hJ, hc, hb, q => by
    have hno : ¬ hk tail ∈ mulK := by
      have : ∀ y ∈ addK ++ relK ++ endK, ¬ y ∈ mulK := by decide +kernel
      exact this _ hf
    have hc' : Cur src s tail := hc
    refine ww_turn (tw_cmp ?_ (by with_unfolding_all rfl))
    trivial
    rw [hc'.tok]
    trivial
    refine if_df hno ?_
    exact q [] [] n st s x rfl (fun _ h => by cases h) (.inl rfl) hP hI hJ hc (Nat.le_refl _) id
  | it :: its, s, d, n, st, x, due, hd, hI, hP, hJ, hc, hb, q => by
    cases hP with
    | cons h1 h2 h3 h4 =>
    refine ww_turn (tw_cmp ?_ (by with_unfolding_all rfl))
    trivial
    rw [hc.tok, show hk (itsToks (it :: its) ++ tail) = it.op from rfl]
    trivial
    rcases op_class h1 with ⟨hm, hl⟩ | ⟨hm, hl, _⟩
    · refine if_dt hm ?_
      have hc' : Cur src s (⟨.sym it.op, it.spot⟩ :: (it.ts ++ (itsToks its ++ tail))) := by simpa [itsToks, It.toks] using hc
      refine sw_cons ?_
      trivial
      refine FW.cw (step_w ok hc' fun s1 g1 g2 g3 => ?_)
      trivial
      refine ew_callG pk.fbinary.g pk.fbinary.k ?_
      trivial
      refine ew_callG pk.ffactor.g pk.ffactor.k ?_
      trivial
      have hfa : ∀ y ∈ addK ++ relK ++ endK, y ∈ mulK ++ addK ++ relK ++ endK := by decide +kernel
      have hlen : (itsToks (it :: its)).length = 1 + it.ts.length + (itsToks its).length := by simp [itsToks, It.toks]; lia
      refine FW.cw (facY hF hd hI h2 h3 hJ ⟨g2, g3⟩ g1 (its_hk h4 (hfa _ hf)) fun s2 y st2 c1 c2 c3 c4 => ?_)
      trivial
      refine FW.cw ((binJ (k := k) ok hJ c2 h1 (p := it.spot) (by lia) fun nd s3 j1 j2 => ?_).le (by lia))
      trivial
      have hcn : cnt (up1 st2) + (itsToks its).length ≤ cnt st + (itsToks (it :: its)).length := by
        cases st2 with
        | none => unfold up1 cnt at *; dsimp only at *; lia
        | some m => unfold up1 cnt at *; dsimp only at *; lia
      refine WW.loco (l := teML W nd) ?_ (term_loop ok hF (bp := bp) hf its (Nat.le_succ_of_le hd) ?_ h4 (j1 _) (j2 _ c1) (by lia) ?_)
      · repeat (first | exact lsub_nil | refine lsub_cons (by decreasing_trivial) ?_)
      · cases st2 with
        | none => exact c3
        | some m => exact c3
      · intro ms rs n' st' s' x' e1 e2 e3 e4 e5 e6 e7 e8 e9
        refine q (it :: ms) rs n' st' s' x' (by rw [e1]; rfl) (fun y hy => ?_) e3 e4 e5 ?_ e7 (by lia) fun _ => ?_
        · rcases List.mem_cons.mp hy with rfl | hy
          · exact hl
          · exact e2 y hy
        · rw [show d + (it :: ms).length = d + 1 + ms.length from by simp; lia]; exact e6
        · rw [show d + (it :: ms).length = d + 1 + ms.length from by simp; lia]; exact e9 j1
    · refine if_df hm ?_
      exact q [] (it :: its) n st s x rfl (fun _ h => by cases h) (.inr ⟨it, its, rfl, hl⟩) (.cons h1 h2 h3 h4) hI hJ hc (Nat.le_refl _) id
end
section
theorem term_w {W : PAd} {src : Str} {base : MH} (ok : POKs W src base) {n0 k : Nat} (hF : FacC W src base n0 (k + 8)) {h : MV} {s0 s : PSt} {kd : Kd} {bp : Option (List Tk)} {tail : List Tk} (hf : hk tail ∈ addK ++ relK ++ endK)
    {its : List It} {d : Nat} (hd : DO n0 ≤ d) {n : Option Nat} {due : MV} (hP : ItsP (OpdP n0) kd n its) {E : Option Nat → PSt → MV → Prop}
    (hfac : ∀ {Q' : MV → MH → Prop}, (∀ s2 x st2, Cur src s2 (itsToks its ++ tail) → J W h s0 d kd n st2 s2 x due → I src tail h s0 bp st2 its → cnt st2 + (itsToks its).length ≤ 4900 → E st2 s2 x → Q' x (PS W src base s2)) → FW c (k + 8) (.ref (pk.fa 110)) [.ref W.rd] (PS W src base s) Q')
    {Q : MV → MH → Prop}
    (q : ∀ s2 x st2 ms rs n' st' s' x', E st2 s2 x → its = ms ++ rs → (∀ it ∈ ms, lvOf it.op = 3) → (rs = [] ∨ ∃ it r, rs = it :: r ∧ lvOf it.op = 1) → ItsP (OpdP n0) kd n' rs → I src tail h s0 bp st' rs → J W h s0 (d + ms.length) kd n' st' s' x' (foldM kd due ms) → Cur src s' (itsToks rs ++ tail) → cnt st' + (itsToks rs).length ≤ cnt st2 + (itsToks its).length → ((∀ n, J W h s0 d kd n st2 s2 x due) → ∀ n, J W h s0 (d + ms.length) kd n st' s' x' (foldM kd due ms)) → Q x' (PS W src base s')) :
    FW c (k + 9) (.ref (pk.fa 109)) [.ref W.rd] (PS W src base s) Q := by
  refine fn_intro pk.fterm.d rfl ?_
  refine sw_cons ?_
  trivial
  refine ew_callG pk.ffactor.g pk.ffactor.k ?_
  trivial
  refine FW.cw (hfac fun s2 x st2 h1 h2 h3 h4 h5 => ?_)
  refine beh_next (sw_cons (s_while ?_))
  refine WW.loco (l := teML W x) ?_ (term_loop ok hF (bp := bp) hf its hd h3 hP h2 h1 h4 fun ms rs n' st' s' x' e1 e2 e3 e4 e5 e6 e7 e8 e9 => ?_)
  · repeat (first | exact lsub_nil | refine lsub_cons (by decreasing_trivial) ?_)
  trivial
  exact q s2 x st2 ms rs n' st' s' x' h5 e1 e2 e3 e4 e5 e6 e7 e8 e9
/-- the plain reading -/
noncomputable def climb (kd : Kd) : (MV → MV) → MV → List It → MV
  | f, x, [] => f x
  | f, x, it :: its => if lvOf it.op = 3 then climb kd f (node (opName kd it.op) it.spot kd.form [x, it.mv]) its else climb kd (fun y => node (opName kd it.op) it.spot kd.form [f x, y]) it.mv its
theorem climb_mul {kd : Kd} {f : MV → MV} : ∀ {ms rs : List It} {x : MV}, (∀ it ∈ ms, lvOf it.op = 3) → climb kd f x (ms ++ rs) = climb kd f (foldM kd x ms) rs
  | [], _, _, _ => rfl
  | it :: ms, rs, x, h => by
    have e : climb kd f x (it :: (ms ++ rs)) = climb kd f (node (opName kd it.op) it.spot kd.form [x, it.mv]) (ms ++ rs) := if_pos (h it (.head _))
    exact e.trans (climb_mul fun y hy => h y (.tail _ hy))
/-- what stands to the left is done -/
noncomputable def climbS (kd : Kd) (L : MV) : List It → MV
  | [] => L
  | it :: its => climb kd (fun y => node (opName kd it.op) it.spot kd.form [L, y]) it.mv its
theorem climb_done {kd : Kd} {f : MV → MV} {x : MV} {rs : List It} (h : rs = [] ∨ ∃ it r, rs = it :: r ∧ lvOf it.op = 1) : climb kd f x rs = climbS kd (f x) rs := by
  rcases h with rfl | ⟨it, r, rfl, hl⟩
  · rfl
  · exact if_neg (by rw [hl]; decide)
end
section
theorem J.le {W : PAd} {h : MV} {s0 s : PSt} {d d' : Nat} {kd : Kd} {n st : Option Nat} {x due : MV} (j : J W h s0 d kd n st s x due) (hd : d ≤ d') : J W h s0 d' kd n st s x due := by
  cases st with
  | none => obtain ⟨a, b, h1, h2⟩ := j; exact ⟨a, b, h1.le hd, h2⟩
  | some m => exact j
theorem allok_bad : ∀ {its : List It} {a : MV}, (∀ it ∈ its, it.r.isOk) → badPost (.ok a) its = none ∧ oneBad (.ok a) its
  | [], _, _ => ⟨rfl, .intro⟩
  | it :: its, a, h => by
    have h0 := h it (.head _)
    cases hr : it.r with
    | ok t =>
      obtain ⟨h1, h2⟩ := allok_bad (its := its) (a := t) fun y hy => h y (.tail _ hy)
      exact ⟨by show badPost it.r its = none; rw [hr]; exact h1, by show oneBad it.r its; rw [hr]; exact h2⟩
    | bad p => rw [hr] at h0; exact h0.elim
noncomputable abbrev siB : List Stmt := fBody (topAt 108)
noncomputable abbrev siML (W : PAd) (x : MV) : Loc := [("rd", .ref W.rd), ("left", x)]
theorem simple_loop {W : PAd} {src : Str} {base : MH} (ok : POKs W src base) {n0 k : Nat} (hF : FacC W src base n0 (k + 8)) {h : MV} {s0 : PSt} {kd : Kd} {bp : Option (List Tk)} {tail : List Tk} (hf : hk tail ∈ relK ++ endK) {R : Fl → Loc → MH → Prop} :
    ∀ (N : Nat) (rs : List It) {s : PSt} {d : Nat} {n st : Option Nat} {x due : MV}, rs.length ≤ N → DO n0 ≤ d → (rs = [] ∨ ∃ it r, rs = it :: r ∧ lvOf it.op = 1) → I src tail h s0 bp st rs → ItsP (OpdP n0) kd n rs → (∀ n, J W h s0 d kd n st s x due) → Cur src s (itsToks rs ++ tail) → cnt st + (itsToks rs).length ≤ 4900 →
      (∀ st' s' x', (∀ n, J W h s0 (d + rs.length) kd n st' s' x' (climbS kd due rs)) → I src tail h s0 bp st' [] → Cur src s' tail → cnt st' ≤ cnt st + (itsToks rs).length → R .next (siML W x') (PS W src base s')) →
      WW c (k + 10) (fScope (topAt 108)) (whT (stA siB 2)) (whB (stA siB 2)) (siML W x) (PS W src base s) R := by
  have hfa : hk tail ∈ addK ++ relK ++ endK := by
    have : ∀ y ∈ relK ++ endK, y ∈ addK ++ relK ++ endK := by decide +kernel
    exact this _ hf
  have hfm : hk tail ∈ mulK ++ addK ++ relK ++ endK := by
    have : ∀ y ∈ relK ++ endK, y ∈ mulK ++ addK ++ relK ++ endK := by decide +kernel
    exact this _ hf
  have stop : ∀ {s : PSt} {d : Nat} {n st : Option Nat} {x due : MV}, I src tail h s0 bp st [] → (∀ n, J W h s0 d kd n st s x due) → Cur src s tail →
      (∀ st' s' x', (∀ n, J W h s0 (d + ([] : List It).length) kd n st' s' x' (climbS kd due [])) → I src tail h s0 bp st' [] → Cur src s' tail → cnt st' ≤ cnt st + (itsToks []).length → R .next (siML W x') (PS W src base s')) →
      WW c (k + 10) (fScope (topAt 108)) (whT (stA siB 2)) (whB (stA siB 2)) (siML W x) (PS W src base s) R := by
    intro s d n st x due hI hJ hc' q
    have hno : ¬ hk tail ∈ addK := by
      have : ∀ y ∈ relK ++ endK, ¬ y ∈ addK := by decide +kernel
      exact this _ hf
    refine ww_turn (tw_cmp ?_ (by with_unfolding_all rfl))
    trivial
    rw [hc'.tok]
    trivial
    refine if_df hno ?_
    exact q st s x hJ hI hc' (Nat.le_add_right _ _)
  intro N
  induction N with
  | zero =>
    intro rs s d n st x due hN hd hh hI hP hJ hc hb q
    obtain rfl : rs = [] := List.length_eq_zero_iff.mp (by lia)
    exact stop (n := n) hI hJ hc q
  | succ N ih =>
    intro rs s d n st x due hN hd hh hI hP hJ hc hb q
    cases rs with
    | nil => exact stop (n := n) hI hJ hc q
    | cons it r =>
      cases hP with
      | cons h1 h2 h3 h4 =>
      have hl : lvOf it.op = 1 := by
        rcases hh with e | ⟨_, _, e, hl⟩
        · cases e
        · injection e with e1 e2; rw [e1]; exact hl
      have hop : it.op ∈ addK := by
        rcases op_class h1 with h | h
        · rw [h.2] at hl; cases hl
        · exact h.2.2
      refine ww_turn (tw_cmp ?_ (by with_unfolding_all rfl))
      trivial
      rw [hc.tok, show hk (itsToks (it :: r) ++ tail) = it.op from rfl]
      trivial
      refine if_dt hop ?_
      have hc' : Cur src s (⟨.sym it.op, it.spot⟩ :: (it.ts ++ (itsToks r ++ tail))) := by simpa [itsToks, It.toks] using hc
      have hlen : (itsToks (it :: r)).length = 1 + it.ts.length + (itsToks r).length := by simp [itsToks, It.toks]; lia
      refine sw_cons ?_
      trivial
      refine FW.cw (step_w ok hc' fun s1 g1 g2 g3 => ?_)
      trivial
      refine ew_callG pk.fbinary.g pk.fbinary.k ?_
      trivial
      refine ew_callG pk.fterm.g pk.fterm.k ?_
      trivial
      -- what stands to the right
      have rt : ∀ {Q' : MV → MH → Prop}, (∀ ms rs2 n2 st2 s2 y, r = ms ++ rs2 → (∀ it ∈ ms, lvOf it.op = 3) → (rs2 = [] ∨ ∃ it r, rs2 = it :: r ∧ lvOf it.op = 1) → ItsP (OpdP n0) kd n2 rs2 → I src tail h s0 bp st2 rs2 → Y W h s0 (d + ms.length) kd (some 0) st st2 s2 y (foldM kd it.mv ms) → Cur src s2 (itsToks rs2 ++ tail) → cnt st2 + (itsToks rs2).length + 1 ≤ cnt st + (itsToks (it :: r)).length → Q' y (PS W src base s2)) →
          FW c (k + 10) (.ref (pk.fa 109)) [.ref W.rd] (PS W src base s1) Q' := by
        intro Q' q'
        cases st with
        | none =>
          refine FW.le (k := k + 9) (term_w ok hF (h := h) (s0 := s0) (bp := bp) hfa (its := r) (d := d) hd h4 (E := fun st2 s2 x => cnt st2 + (itsToks r).length + 1 ≤ cnt none + (itsToks (it :: r)).length) (due := it.mv) (fun {Q''} q'' => ?_) fun s2 x2 st2 ms rs2 n2 st' s' x' E1 e1 e2 e3 e4 e5 e6 e7 e8 e9 => ?_) (by lia)
          · refine facY hF hd hI h2 h3 (hJ n) ⟨g2, g3⟩ g1 (its_hk h4 hfm) fun s' y st' c1 c2 c3 c4 => ?_
            refine q'' s' y st' c1 ?_ c3 (by lia) c4
            cases st' with
            | none =>
              obtain ⟨a1, b, a2, a3⟩ := c2
              refine ⟨a1, b, a2, fun e => ?_⟩
              rw [a3 e]; rfl
            | some m => exact c2
          · refine q' ms rs2 n2 st' s' x' e1 e2 e3 e4 e5 ?_ e7 (by lia)
            cases st' with
            | none =>
              obtain ⟨a1, b, a2, a3⟩ := e6
              exact ⟨a1, b, a2, fun _ => rfl⟩
            | some m => exact e6
        | some m =>
          obtain ⟨hbp, hall⟩ : bp ≠ none ∧ ∀ x ∈ it :: r, x.r.isOk := hI
          obtain ⟨hdm, hsx⟩ := hJ none
          have hall2 : ∀ x ∈ r, x.r.isOk := fun x hx => hall x (.tail _ hx)
          have hd1 : Dirty h m s1 := hdm.same g2 g3
          cases hr : it.r with
          | bad p => have := hall it (.head _); rw [hr] at this; exact this.elim
          | ok t =>
            rw [hr] at h2
            have emv := h3 t hr
            refine FW.le (k := k + 9) (term_w ok hF (h := h) (s0 := s1) (bp := none) hfa (its := r) (d := d) hd h4 (E := fun st2 s2 x => st2 = none) (due := it.mv) (fun {Q''} q'' => ?_) fun s2 x2 st2 ms rs2 n2 st' s' x' E1 e1 e2 e3 e4 e5 e6 e7 e8 e9 => ?_) (by lia)
            · refine hF h2 g1 (its_hk h4 hfm) (.inl .intro) fun s' nd hc' ⟨hs', b, hb', hp⟩ => ?_
              refine q'' s' nd none hc' ⟨hs', b, by rw [emv]; exact hb'.le hd, fun e => ?_⟩ ?_ (by unfold cnt at *; dsimp only at *; lia) rfl
              · cases hn : (n == some 0) with
                | true => rw [show n = some 0 from by simpa using hn]; rfl
                | false => rw [hp hn] at e; cases e
              · obtain ⟨i1, i2⟩ := allok_bad (a := .none) hall2
                exact ⟨i1, i2, fun _ e => by cases e⟩
            · subst E1
              cases st' with
              | some m' => exact absurd rfl (show (none : Option (List Tk)) ≠ none from e5.1)
              | none =>
                obtain ⟨a1, b, a2, a3⟩ := e6
                refine q' ms rs2 n2 (some m) s' x' e1 e2 e3 e4 ⟨hbp, fun y hy => hall2 y (by rw [e1]; exact List.mem_append_right _ hy)⟩ ⟨hd1.to a1, b, a2⟩ e7 ?_
                unfold cnt at *; dsimp only at *; lia
      refine FW.cw (rt fun ms rs2 n2 st2 s2 y e1 e2 e3 e4 e5 e6 e7 e8 => ?_)
      trivial
      have hJ' : J W h s0 (d + ms.length) kd (some 0) st s x due := (hJ _).le (Nat.le_add_right _ _)
      refine FW.cw ((binJ (k := k) ok hJ' e6 h1 (p := it.spot) (by lia) fun nd s3 j1 j2 => ?_).le (by lia))
      trivial
      have hcn : cnt (up1 st2) + (itsToks rs2).length ≤ cnt st + (itsToks (it :: r)).length := by
        cases st2 with
        | none => unfold up1 cnt at *; dsimp only at *; lia
        | some m => unfold up1 cnt at *; dsimp only at *; lia
      have hrl : r.length = ms.length + rs2.length := by rw [e1, List.length_append]
      refine WW.loco (l := siML W nd) ?_ (ih rs2 (d := d + ms.length + 1) (by simp at hN; lia) (by lia) e3 ?_ e4 j1 (j2 _ e7) (by lia) fun st' s' x' f1 f2 f3 f4 => ?_)
      · repeat (first | exact lsub_nil | refine lsub_cons (by decreasing_trivial) ?_)
      · cases st2 with
        | none => exact e5
        | some m => exact e5
      · refine q st' s' x' ?_ f2 f3 (by lia)
        rw [show d + (it :: r).length = d + ms.length + 1 + rs2.length from by simp; lia]
        have ec : climbS kd due (it :: r) = climbS kd (node (opName kd it.op) it.spot kd.form [due, foldM kd it.mv ms]) rs2 := by
          show climb kd (fun y => node (opName kd it.op) it.spot kd.form [due, y]) it.mv r = _
          rw [e1, climb_mul e2, climb_done e3]
        rw [ec]; exact f1
end
noncomputable def sgF (kd : Kd) : Option (Str × Nat) → MV → MV
  | none, x => x
  | some (sg, p), x => if sg = "-" then node (signName kd sg) p kd.form [x] else x
section
theorem bad_none : ∀ {its : List It} {a : MV}, badPost (.ok a) its = none → oneBad (.ok a) its
  | [], _, _ => .intro
  | it :: its, a, h => by
    cases hr : it.r with
    | ok t =>
      have h' : badPost it.r its = none := h
      rw [hr] at h'
      show oneBad it.r its
      rw [hr]; exact bad_none h'
    | bad p =>
      have h' : badPost it.r its = none := h
      rw [hr, badPost_bad] at h'; cases h'
theorem opd_start {n : Nat} {kd : Kd} {ts : List Tk} {r : Res} (h : OpdP n kd false false ts r) (l : List Tk) : ¬ hk (ts ++ l) = "+" ∧ ¬ hk (ts ++ l) = "-" := by
  cases n with
  | zero =>
    cases h with
    | var => exact ⟨by show ¬ (("ident" : Str) = "+"); decide +kernel, by show ¬ (("ident" : Str) = "-"); decide +kernel⟩
    | not h => exact h.elim
    | par h => exact h.elim
    | parR h => exact h.elim
  | succ n =>
    cases h with
    | var => exact ⟨by show ¬ (("ident" : Str) = "+"); decide +kernel, by show ¬ (("ident" : Str) = "-"); decide +kernel⟩
    | not => exact ⟨by show ¬ (("~" : Str) = "+"); decide +kernel, by show ¬ (("~" : Str) = "-"); decide +kernel⟩
    | par => exact ⟨by show ¬ (("(" : Str) = "+"); decide +kernel, by show ¬ (("(" : Str) = "-"); decide +kernel⟩
    | parR => exact ⟨by show ¬ (("(" : Str) = "+"); decide +kernel, by show ¬ (("(" : Str) = "-"); decide +kernel⟩
/-- what a row comes to, read -/
noncomputable def RowOut (W : PAd) (src : Str) (d : Nat) (kd : Kd) (tail : List Tk) (m : Nat) (s : PSt) (bp : Option (List Tk)) (due nd : MV) (s' : PSt) : Prop := match bp with
  | none => Same s s' ∧ Shp W d kd false nd due
  | some post => Dirty (errAt src (post ++ tail)) (m + 1) s' ∧ Sane nd
theorem simple_w {W : PAd} {src : Str} {base : MH} (ok : POKs W src base) {n0 k : Nat} (hF : FacC W src base n0 (k + 8)) {s : PSt} {kd : Kd} {tail : List Tk} (hf : hk tail ∈ relK ++ endK)
    {sg : Option (Str × Nat)} {n : Option Nat} {ts0 : List Tk} {r0 : Res} {its : List It} {m0 : MV} (hsg : SgOK kd sg) (hO : OpdP n0 kd false false ts0 r0) (hm0 : ∀ t, r0 = .ok t → m0 = t) (hP : ItsP (OpdP n0) kd n its) (hl3 : its.length ≤ 3) (hob : oneBad r0 its)
    (hc : Cur src s (sgToks sg ++ (ts0 ++ itsToks its) ++ tail)) (hcl : badPost r0 its = none ∨ Clean s) (hb : (sgToks sg ++ (ts0 ++ itsToks its)).length + 1 ≤ 4900) {Q : MV → MH → Prop}
    (q : ∀ s' nd, Cur src s' tail → RowOut W src (DO n0 + 4) kd tail (sgToks sg ++ (ts0 ++ itsToks its)).length s (badPost r0 its) (climb kd (sgF kd sg) m0 its) nd s' → Q nd (PS W src base s')) :
    FW c (k + 11) (.ref (pk.fa 108)) [.ref W.rd] (PS W src base s) Q := by
  have hfa : hk tail ∈ addK ++ relK ++ endK := by
    have : ∀ y ∈ relK ++ endK, y ∈ addK ++ relK ++ endK := by decide +kernel
    exact this _ hf
  have hfm : hk tail ∈ mulK ++ addK ++ relK ++ endK := by
    have : ∀ y ∈ relK ++ endK, y ∈ mulK ++ addK ++ relK ++ endK := by decide +kernel
    exact this _ hf
  generalize hbp : badPost r0 its = bp at hcl q
  obtain ⟨h, hh⟩ : ∃ h, ∀ post, bp = some post → errAt src (post ++ tail) = h := ⟨errAt src (bp.getD [] ++ tail), fun post e => by rw [e]; rfl⟩
  have hlen : (sgToks sg ++ (ts0 ++ itsToks its)).length = (sgToks sg).length + ts0.length + (itsToks its).length := by simp; lia
  -- the first term
  have first : ∀ {s1 : PSt} {Q' : MV → MH → Prop}, Same s s1 → Cur src s1 (ts0 ++ (itsToks its ++ tail)) → (∀ ms rs n2 st2 s2 x, its = ms ++ rs → (∀ it ∈ ms, lvOf it.op = 3) → (rs = [] ∨ ∃ it r, rs = it :: r ∧ lvOf it.op = 1) → ItsP (OpdP n0) kd n2 rs → I src tail h s bp st2 rs → (∀ n, J W h s (DO n0 + ms.length) kd n st2 s2 x (foldM kd m0 ms)) → Cur src s2 (itsToks rs ++ tail) → cnt st2 + (itsToks rs).length ≤ 1 + ts0.length + (itsToks its).length → Q' x (PS W src base s2)) →
      FW c (k + 10) (.ref (pk.fa 109)) [.ref W.rd] (PS W src base s1) Q' := by
    intro s1 Q' hs1 hc1 q'
    refine FW.le (k := k + 9) (term_w ok hF (h := h) (s0 := s) (bp := bp) hfa (its := its) (d := DO n0) (Nat.le_refl _) hP (due := m0) (E := fun st2 s2 x => (∀ n, J W h s (DO n0) kd n st2 s2 x m0) ∧ cnt st2 + (itsToks its).length ≤ 1 + ts0.length + (itsToks its).length) (fun {Q''} q'' => ?_) fun s2 x2 st2 ms rs n2 st' s' x' E1 e1 e2 e3 e4 e5 e6 e7 e8 e9 => q' ms rs n2 st' s' x' e1 e2 e3 e4 e5 (e9 E1.1) e7 (by have := E1.2; lia)) (by lia)
    cases hr : r0 with
    | ok t =>
      rw [hr] at hO hbp hob
      have em := hm0 t hr
      refine hF hO hc1 (its_hk hP hfm) (.inl .intro) fun s' nd hc' ⟨hs', b, hb', hp⟩ => ?_
      have hb0 := hp rfl
      subst hb0
      have hj : ∀ n, J W h s (DO n0) kd n none s' nd m0 := fun n => ⟨hs1.trans hs', false, by rw [em]; exact hb', fun e => by cases e⟩
      refine q'' s' nd none hc' (hj _) ⟨by rw [← hbp]; exact badPost_ok, by rw [oneBad_ok (b := t)]; exact hob, fun post e => ⟨hh post e, hcl.resolve_left (by rw [e]; simp)⟩⟩ (by unfold cnt; dsimp only; lia) ⟨hj, by unfold cnt; dsimp only; lia⟩
    | bad p =>
      rw [hr] at hO hbp hob
      rw [badPost_bad] at hbp
      have cl : Clean s := hcl.resolve_left (by rw [← hbp]; simp)
      refine hF hO hc1 (its_hk hP hfm) (.inr (cl.to hs1)) fun s' nd hc' ⟨hd', hs'⟩ => ?_
      rw [← List.append_assoc, hh _ hbp.symm] at hd'
      have hj : ∀ n, J W h s (DO n0) kd n (some (ts0.length + 1)) s' nd m0 := fun n => ⟨hd', hs'⟩
      rw [oneBad_bad] at hob
      refine q'' s' nd (some (ts0.length + 1)) hc' (hj _) ⟨by rw [← hbp]; simp, hob⟩ (by unfold cnt; dsimp only; lia) ⟨hj, by unfold cnt; dsimp only; lia⟩
  -- what comes behind the first term
  have rest : ∀ {ms rs : List It} {n2 st2 : Option Nat} {s2 : PSt} {x : MV} {d : Nat} {ml : Loc}, its = ms ++ rs → (∀ it ∈ ms, lvOf it.op = 3) → (rs = [] ∨ ∃ it r, rs = it :: r ∧ lvOf it.op = 1) → ItsP (OpdP n0) kd n2 rs → I src tail h s bp st2 rs → (∀ n, J W h s d kd n st2 s2 x (sgF kd sg (foldM kd m0 ms))) → DO n0 ≤ d → d ≤ DO n0 + ms.length + 1 → Cur src s2 (itsToks rs ++ tail) → cnt st2 + (itsToks rs).length ≤ (sgToks sg ++ (ts0 ++ itsToks its)).length + 1 → LSub (siML W x) ml →
      SW c (k + 10) (fScope (topAt 108)) (siB.drop 2) ml (PS W src base s2) (retP Q) := by
    intro ms rs n2 st2 s2 x d ml e1 e2 e3 e4 e5 e6 hd1 hd2 e7 e8 hml
    refine SW.loco hml (sw_cons (s_while ?_))
    refine simple_loop ok hF (bp := bp) hf rs.length rs (Nat.le_refl _) hd1 e3 e5 e4 e6 e7 (by lia) fun st' s' x' f1 f2 f3 f4 => ?_
    trivial
    have hil : its.length = ms.length + rs.length := by rw [e1, List.length_append]
    have ec : climb kd (sgF kd sg) m0 its = climbS kd (sgF kd sg (foldM kd m0 ms)) rs := by rw [e1, climb_mul e2, climb_done e3]
    refine q s' x' f3 ?_
    rw [ec]
    cases st' with
    | none =>
      have hbn : bp = none := f2.1.symm
      subst hbn
      obtain ⟨a1, b, a2, a3⟩ := f1 (some 0)
      have hb0 : b = false := by cases b with | false => rfl | true => cases a3 rfl
      subst hb0
      exact ⟨a1, a2.le (by lia)⟩
    | some m =>
      obtain ⟨post, hpo⟩ : ∃ post, bp = some post := Option.ne_none_iff_exists'.mp f2.1
      obtain ⟨a1, a2⟩ := f1 none
      rw [← hh post hpo] at a1
      subst hpo
      refine ⟨a1.le ?_, a2⟩
      have f4 : m ≤ _ := f4
      lia
  cases hsg with
  | none =>
    have hc1 : Cur src s (ts0 ++ (itsToks its ++ tail)) := by simpa [sgToks] using hc
    obtain ⟨np, nm⟩ := opd_start hO (itsToks its ++ tail)
    refine fn_intro pk.fsimpleexpression.d rfl ?_
    refine sw_cons ?_
    trivial
    rw [hc1.tok]
    trivial
    refine ew_callG pk.fterm.g pk.fterm.k ?_
    trivial
    refine FW.cw (first .refl hc1 fun ms rs n2 st2 s2 x e1 e2 e3 e4 e5 e6 e7 e8 => ?_)
    refine beh_next (sw_nil (beh_next (rest e1 e2 e3 e4 e5 e6 (by lia) (by lia) e7 (by rw [hlen]; simp only [sgToks, List.length_nil]; lia) ?_)))
    repeat (first | exact lsub_nil | refine lsub_cons (by decreasing_trivial) ?_)
  | minus p hk =>
    have hc1 : Cur src s (⟨.sym "-", p⟩ :: (ts0 ++ (itsToks its ++ tail))) := by simpa [sgToks] using hc
    refine fn_intro pk.fsimpleexpression.d rfl ?_
    refine sw_cons ?_
    trivial
    rw [hc1.tok, show Nu.hk (⟨.sym "-", p⟩ :: (ts0 ++ (itsToks its ++ tail))) = "-" from rfl, show hp src (⟨.sym "-", p⟩ :: (ts0 ++ (itsToks its ++ tail))) = p from rfl]
    trivial
    refine FW.cw (step_w ok hc1 fun s1 g1 g2 g3 => ?_)
    trivial
    refine ew_callG pk.funary.g pk.funary.k ?_
    trivial
    refine ew_callG pk.fterm.g pk.fterm.k ?_
    trivial
    refine FW.cw (first ⟨g2, g3⟩ g1 fun ms rs n2 st2 s2 x e1 e2 e3 e4 e5 e6 e7 e8 => ?_)
    trivial
    have hsl : (sgToks (some (("-" : Str), p))).length = 1 := rfl
    cases st2 with
    | none =>
      obtain ⟨a1, b, a2, a3⟩ := e6 (some 0)
      have hb0 : b = false := by cases b with | false => rfl | true => cases a3 rfl
      subst hb0
      obtain ⟨op1, p1, kids, v1, rfl, c1, c2⟩ := a2.shape
      have fin : ∀ nm, UnOK kd "-" nm → nm = signName kd "-" → CW c (k + 10) (.ref (pk.fa 54)) [tysV W.kn, .ref W.er, .str "-", ND op1 p1 (tyK kd) kids v1, .int p] (PS W src base s2) fun v σ => ∃ x', v = x' ∧ σ = PS W src base s2 ∧ ∀ n, J W h s (DO n0 + ms.length + 1) kd n none s2 x' (sgF kd (some ("-", p)) (foldM kd m0 ms)) := by
        intro nm hu en
        refine FW.cw ((unary_w (k := k) hu c1 ?_).le (by lia))
        refine ⟨_, rfl, rfl, fun n => ⟨a1, false, ?_, fun e => by cases e⟩⟩
        subst en
        have := Shp.un (W := W) (kd := kd) (p := p) (name := signName kd "-") (by cases kd <;> decide +kernel) a2
        exact this
      have use : CW c (k + 10) (.ref (pk.fa 54)) [tysV W.kn, .ref W.er, .str "-", ND op1 p1 (tyK kd) kids v1, .int p] (PS W src base s2) fun v σ => ∃ x', v = x' ∧ σ = PS W src base s2 ∧ ∀ n, J W h s (DO n0 + ms.length + 1) kd n none s2 x' (sgF kd (some ("-", p)) (foldM kd m0 ms)) := by
        cases kd with
        | i => exact fin "neg" .neg rfl
        | s => exact fin "s~" .sneg rfl
        | b => exact absurd rfl hk
      refine OW.mono use fun v σ ⟨x', ev, eσ, hj⟩ => ?_
      subst ev eσ
      refine beh_next (sw_nil (beh_next (rest e1 e2 e3 e4 e5 hj (by lia) (by lia) e7 (by rw [hlen, hsl]; lia) ?_)))
      repeat (first | exact lsub_nil | refine lsub_cons (by decreasing_trivial) ?_)
    | some m =>
      obtain ⟨a1, a2⟩ := e6 none
      have e8' : m + (itsToks rs).length ≤ 1 + ts0.length + (itsToks its).length := e8
      refine FW.cw ((unaryd_w (k := k) ok a2 (Nat.le_trans a1.len (by lia)) (Nat.le_trans a1.ps (by lia)) fun nd' s' b1 b2 => ?_).le (by lia))
      refine beh_next (sw_nil (beh_next (rest (st2 := some (m + 1)) e1 e2 e3 e4 e5 (fun n => ⟨b2.dirty a1, b1⟩) (Nat.le_refl _) (by lia) (b2.cur e7) (by rw [hlen, hsl]; unfold cnt; dsimp only; lia) ?_)))
      repeat (first | exact lsub_nil | refine lsub_cons (by decreasing_trivial) ?_)
  | plus p hk =>
    subst hk
    have hc1 : Cur src s (⟨.sym "+", p⟩ :: (ts0 ++ (itsToks its ++ tail))) := by simpa [sgToks] using hc
    refine fn_intro pk.fsimpleexpression.d rfl ?_
    refine sw_cons ?_
    trivial
    rw [hc1.tok, show Nu.hk (⟨.sym "+", p⟩ :: (ts0 ++ (itsToks its ++ tail))) = "+" from rfl, show hp src (⟨.sym "+", p⟩ :: (ts0 ++ (itsToks its ++ tail))) = p from rfl]
    trivial
    refine FW.cw (step_w ok hc1 fun s1 g1 g2 g3 => ?_)
    trivial
    refine ew_callG pk.funary.g pk.funary.k ?_
    trivial
    refine ew_callG pk.fterm.g pk.fterm.k ?_
    trivial
    refine FW.cw (first ⟨g2, g3⟩ g1 fun ms rs n2 st2 s2 x e1 e2 e3 e4 e5 e6 e7 e8 => ?_)
    trivial
    have hsl : (sgToks (some (("+" : Str), p))).length = 1 := rfl
    cases st2 with
    | none =>
      obtain ⟨a1, b, a2, a3⟩ := e6 (some 0)
      obtain ⟨op1, p1, kids, v1, rfl, c1⟩ := a2.shape2
      refine FW.cw ((unaryp_w (k := k) ?_).le (by lia))
      refine beh_next (sw_nil (beh_next (rest e1 e2 e3 e4 e5 e6 (Nat.le_add_right _ _) (by lia) e7 (by rw [hlen, hsl]; lia) ?_)))
      repeat (first | exact lsub_nil | refine lsub_cons (by decreasing_trivial) ?_)
    | some m =>
      obtain ⟨a1, a2⟩ := e6 none
      have e8' : m + (itsToks rs).length ≤ 1 + ts0.length + (itsToks its).length := e8
      refine FW.cw ((unaryd_w (k := k) ok a2 (Nat.le_trans a1.len (by lia)) (Nat.le_trans a1.ps (by lia)) fun nd' s' b1 b2 => ?_).le (by lia))
      refine beh_next (sw_nil (beh_next (rest (st2 := some (m + 1)) e1 e2 e3 e4 e5 (fun n => ⟨b2.dirty a1, b1⟩) (Nat.le_refl _) (by lia) (b2.cur e7) (by rw [hlen, hsl]; unfold cnt; dsimp only; lia) ?_)))
      repeat (first | exact lsub_nil | refine lsub_cons (by decreasing_trivial) ?_)
end
/-- the stack and the plain reading agree -/
noncomputable def PendF (f : MV → MV) (pend : List Wt) (ls : List MV) : Prop := ∀ x, redW 3 pend (x :: ls) = (pend, x :: ls) ∧ redW 1 pend (x :: ls) = ([], [f x]) ∧ redAll pend (x :: ls) = [f x]
theorem red1_bin {t : Wt} {l x : MV} {ls : List MV} (h : t.name ∉ unaryNames) : red1 t (x :: l :: ls) = node t.name t.spot t.form [l, x] :: ls := by
  unfold red1; dsimp only; rw [if_neg h]
theorem run_go {kd : Kd} : ∀ (its : List It) (f : MV → MV) (pend : List Wt) (ls : List MV) (x : MV) (ws : List Wt) (ds : List MV), (∀ it ∈ its, it.op ∈ opsOf kd) → PendF f pend ls → redW 3 ws ds = (pend, x :: ls) → redW 1 ws ds = ([], [f x]) → redAll ws ds = [f x] →
    redAll (its.foldl (pushIt kd) (ws, ds)).1 (its.foldl (pushIt kd) (ws, ds)).2 = [climb kd f x its]
  | [], f, pend, ls, x, ws, ds, _, _, _, _, h => h
  | it :: its, f, pend, ls, x, ws, ds, ho, hp, h3, h1, h => by
    have hop := ho it (.head _)
    have hbin := op_bin hop
    have hrest := fun y hy => ho y (.tail _ hy)
    show redAll (its.foldl (pushIt kd) (pushIt kd (ws, ds) it)).1 (its.foldl (pushIt kd) (pushIt kd (ws, ds) it)).2 = _
    rcases op_class hop with ⟨_, hl⟩ | ⟨_, hl, _⟩
    · have e : pushIt kd (ws, ds) it = (it.wt kd :: pend, it.mv :: x :: ls) := by unfold pushIt; dsimp only; rw [hl, h3]
      have r1 : red1 (it.wt kd) (it.mv :: x :: ls) = node (opName kd it.op) it.spot kd.form [x, it.mv] :: ls := red1_bin hbin
      obtain ⟨p1, p2, p3⟩ := hp (node (opName kd it.op) it.spot kd.form [x, it.mv])
      have hlv : (it.wt kd).level = 3 := hl
      rw [e, show climb kd f x (it :: its) = climb kd f (node (opName kd it.op) it.spot kd.form [x, it.mv]) its from if_pos hl]
      refine run_go its f pend ls _ _ _ hrest hp ?_ ?_ ?_
      · rw [redW, if_pos (by rw [hlv]; decide), r1]; exact p1
      · rw [redW, if_pos (by rw [hlv]; decide), r1]; exact p2
      · rw [redAll, r1]; exact p3
    · have e : pushIt kd (ws, ds) it = ([it.wt kd], [it.mv, f x]) := by unfold pushIt; dsimp only; rw [hl, h1]
      have hlv : (it.wt kd).level = 1 := hl
      have r1 : ∀ y, red1 (it.wt kd) [y, f x] = [node (opName kd it.op) it.spot kd.form [f x, y]] := fun y => red1_bin hbin
      rw [e, show climb kd f x (it :: its) = climb kd (fun y => node (opName kd it.op) it.spot kd.form [f x, y]) it.mv its from if_neg (by rw [hl]; decide)]
      have hp' : PendF (fun y => node (opName kd it.op) it.spot kd.form [f x, y]) [it.wt kd] [f x] := fun y => by
        refine ⟨?_, ?_, ?_⟩
        · rw [redW, if_neg (by rw [hlv]; decide)]
        · rw [redW, if_pos (by rw [hlv]; decide), r1]; rfl
        · rw [redAll, r1]; rfl
      obtain ⟨p1, p2, p3⟩ := hp' it.mv
      exact run_go its _ [it.wt kd] [f x] it.mv _ _ hrest hp' p1 p2 p3
theorem its_ops {O : OP} {kd : Kd} : ∀ {n : Option Nat} {its : List It}, ItsP O kd n its → ∀ it ∈ its, it.op ∈ opsOf kd
  | _, _, .nil, _, h => by cases h
  | _, _, .cons h1 _ _ h4, y, h => by
    rcases List.mem_cons.mp h with rfl | h
    · exact h1
    · exact its_ops h4 y h
theorem run_climb {O : OP} {kd : Kd} {sg : Option (Str × Nat)} (hsg : SgOK kd sg) {m0 : MV} {n : Option Nat} {its : List It} (hP : ItsP O kd n its) : runTree kd sg m0 its = climb kd (sgF kd sg) m0 its := by
  have key : redAll (runSt kd sg m0 its).1 (runSt kd sg m0 its).2 = [climb kd (sgF kd sg) m0 its] := by
    unfold runSt
    have hops := its_ops hP
    cases hsg with
    | none =>
      refine run_go its _ [] [] m0 [] [m0] hops (fun x => ⟨rfl, rfl, rfl⟩) rfl rfl rfl
    | minus p hk =>
      have hp : PendF (sgF kd (some ("-", p))) [⟨signName kd "-", 2, p, kd.form⟩] [] := fun x => by
        cases kd with
        | b => exact absurd rfl hk
        | i => exact ⟨by simp [redW], by simp only [redW]; rw [if_pos (by decide)]; rfl, rfl⟩
        | s => exact ⟨by simp [redW], by simp only [redW]; rw [if_pos (by decide)]; rfl, rfl⟩
      obtain ⟨p1, p2, p3⟩ := hp m0
      exact run_go its _ _ [] m0 _ _ hops hp p1 p2 p3
    | plus p hk =>
      have hp : PendF (sgF kd (some ("+", p))) [⟨signName kd "+", 2, p, kd.form⟩] [] := fun x => by
        subst hk
        exact ⟨by simp [redW], by simp only [redW]; rw [if_pos (by decide)]; rfl, rfl⟩
      obtain ⟨p1, p2, p3⟩ := hp m0
      exact run_go its _ _ [] m0 _ _ hops hp p1 p2 p3
  unfold runTree
  rw [key]; rfl
section
noncomputable def RowC (W : PAd) (src : Str) (base : MH) (n k : Nat) : Prop := ∀ {kd : Kd} {ts tail : List Tk} {r : Res} {s : PSt} {Q : MV → MH → Prop}, RowP (OpdP n) kd ts r → Cur src s (ts ++ tail) → hk tail ∈ relK ++ endK → (r.isOk ∨ Clean s) → ts.length + 1 ≤ 4900 →
  (∀ s' nd, Cur src s' tail → Out W src (DO n + 4) kd false tail ts.length s r nd s' → Q nd (PS W src base s')) → FW c k (.ref (pk.fa 108)) [.ref W.rd] (PS W src base s) Q
theorem rowC {W : PAd} {src : Str} {base : MH} (ok : POKs W src base) {n k : Nat} (hF : FacC W src base n (k + 8)) : RowC W src base n (k + 11) := by
  intro kd ts tail r s Q hR hc hf hcl hb q
  cases hR with
  | @ok sg nn ts0 t0 its h1 h2 h3 h4 h5 =>
    refine simple_w ok hF hf h1 h2 (m0 := t0) (fun t e => by cases e; rfl) h3 h4 (bad_none h5) hc (.inl h5) hb fun s' nd hc' ho => ?_
    rw [h5] at ho
    refine q s' nd hc' ⟨ho.1, false, ?_, fun _ => rfl⟩
    rw [run_climb h1 h3]; exact ho.2
  | @bad sg nn ts0 post r0 its h1 h2 h3 h4 h5 h6 =>
    refine simple_w ok hF hf h1 h2 (m0 := match r0 with | .ok t => t | .bad _ => .none) (fun t e => by subst e; rfl) h3 h4 h6 hc (.inr (hcl.resolve_left id)) hb fun s' nd hc' ho => ?_
    rw [h5] at ho
    exact q s' nd hc' ho
theorem end_rel {ts : List Tk} (h : hk ts ∈ endK) : hk ts ∈ relK ++ endK ∧ ¬ hk ts = "IS" ∧ ¬ hk ts ∈ (["=", "#", "<", "<=", ">", ">=", "IN"] : List Str) := by
  have : ∀ y ∈ endK, y ∈ relK ++ endK ∧ ¬ y = "IS" ∧ ¬ y ∈ (["=", "#", "<", "<=", ">", ">=", "IN"] : List Str) := by decide +kernel
  exact this _ h
theorem expR {W : PAd} {src : Str} {base : MH} (ok : POKs W src base) {n k : Nat} (hn : NO n ≤ 1000) (hR : RowC W src base n (k + 11)) : ExpR W src base n (k + 12) := by
  intro kd ts tail r s Q hP hc hf hcl q
  obtain ⟨f1, f2, f3⟩ := end_rel hf
  have hlen := row_toks (opd_toks n) hP
  refine fn_intro pk.fexpression.d rfl ?_
  refine sw_cons ?_
  trivial
  refine ew_callG pk.fsimpleexpression.g pk.fsimpleexpression.k ?_
  trivial
  refine FW.cw (hR hP hc f1 hcl (by lia) fun s' nd hc' ho => ?_)
  trivial
  rw [hc'.tok]
  trivial
  refine q s' nd hc' ?_
  cases r with
  | ok t =>
    obtain ⟨a1, b, a2, a3⟩ := ho
    exact ⟨a1, b, a2.le (by lia), a3⟩
  | bad p => exact ho
theorem relw_op {k1 k2 : Kd} {op nm : Str} (h : RelW k1 k2 op nm) : op ∈ (["=", "#", "<", "<=", ">", ">=", "IN"] : List Str) ∧ ¬ op = "IS" ∧ nm ∈ nmL := by
  cases h with
  | i op h =>
    have : ∀ op ∈ (["=", "#", "<", "<=", ">", ">="] : List Str), op ∈ (["=", "#", "<", "<=", ">", ">=", "IN"] : List Str) ∧ ¬ op = "IS" ∧ op ∈ nmL := by decide +kernel
    exact this op h
  | s op h =>
    have : ∀ op ∈ (["=", "#"] : List Str), op ∈ (["=", "#", "<", "<=", ">", ">=", "IN"] : List Str) ∧ ¬ op = "IS" ∧ op ∈ nmL := by decide +kernel
    exact this op h
  | sle => decide +kernel
  | sge => decide +kernel
  | isin => decide +kernel
theorem expL_core {W : PAd} {src : Str} {base : MH} (ok : POKs W src base) {n k : Nat} (hn : NO n ≤ 1000) (hR : RowC W src base n (k + 11)) {k1 k2 : Kd} {op nm : Str} (hw : RelW k1 k2 op nm) {ts1 ts2 tail : List Tk} {r1 r2 : Res} {p : Nat} {s : PSt} {Q : MV → MH → Prop}
    (h1 : RowP (OpdP n) k1 ts1 r1) (h2 : RowP (OpdP n) k2 ts2 r2) (hc : Cur src s ((ts1 ++ (⟨.sym op, p⟩ :: ts2)) ++ tail)) (hf : hk tail ∈ endK) (hcl1 : r1.isOk ∨ Clean s) (hcl2 : r2.isOk ∨ (r1.isOk ∧ Clean s))
    (q : ∀ s1 x s2 s3 y, Out W src (DO n + 4) k1 false (⟨.sym op, p⟩ :: (ts2 ++ tail)) ts1.length s r1 x s1 → Same s1 s2 → Out W src (DO n + 4) k2 false tail ts2.length s2 r2 y s3 → Cur src s3 tail → FW c (k + 11) (.ref (pk.fa 67)) [tysV W.kn, .ref W.er, .str op, x, y, .int p] (PS W src base s3) Q) :
    FW c (k + 12) (.ref (pk.fa 106)) [.ref W.rd] (PS W src base s) Q := by
  obtain ⟨f1, _, _⟩ := end_rel hf
  obtain ⟨o1, o2, o3⟩ := relw_op hw
  have l1 := row_toks (opd_toks n) h1
  have l2 := row_toks (opd_toks n) h2
  have hc0 : Cur src s (ts1 ++ (⟨.sym op, p⟩ :: (ts2 ++ tail))) := by simpa using hc
  refine fn_intro pk.fexpression.d rfl ?_
  refine sw_cons ?_
  trivial
  refine ew_callG pk.fsimpleexpression.g pk.fsimpleexpression.k ?_
  trivial
  refine FW.cw (hR h1 hc0 (List.mem_append_left _ o1) hcl1 (by lia) fun s1 x hc1 ho1 => ?_)
  trivial
  rw [hc1.tok, show hk (⟨.sym op, p⟩ :: (ts2 ++ tail)) = op from rfl, show hp src (⟨.sym op, p⟩ :: (ts2 ++ tail)) = p from rfl]
  trivial
  refine FW.cw (step_w ok hc1 fun s2 g1 g2 g3 => ?_)
  trivial
  refine ew_callG pk.frelation.g pk.frelation.k ?_
  trivial
  refine ew_callG pk.fsimpleexpression.g pk.fsimpleexpression.k ?_
  trivial
  have hcl : r2.isOk ∨ Clean s2 := hcl2.imp id fun ⟨a, b⟩ => by
    cases r1 with
    | ok t => exact (b.to ho1.1).same g2 g3
    | bad p => exact a.elim
  refine FW.cw (hR h2 g1 f1 hcl (by lia) fun s3 y hc3 ho2 => ?_)
  trivial
  exact FW.cw (FW.mono (q s1 x s2 s3 y ho1 ⟨g2, g3⟩ ho2 hc3) fun v σ h => by trivial; exact h)
theorem expL {W : PAd} {src : Str} {base : MH} (ok : POKs W src base) {n k : Nat} (hn : NO n ≤ 400) (hR : RowC W src base n (k + 11)) : ExpL W src base n (k + 12) := by
  intro ts tail r s Q hP hc hf hcl q
  cases hP with
  | @ok k1 k2 op nm p ts1 ts2 t1 t2 hw h1 h2 =>
    refine expL_core ok (by lia) hR hw h1 h2 hc hf (.inl .intro) (.inl .intro) fun s1 x s2 s3 y ho1 hs ho2 hc3 => ?_
    obtain ⟨a1, b1, a2, a3⟩ := ho1
    obtain ⟨c1, b2, c2, c3⟩ := ho2
    have := a3 rfl; subst this
    have := c3 rfl; subst this
    obtain ⟨p1, p2, p3, p4, rfl, p5, _⟩ := a2.shape
    obtain ⟨q1, q2, q3, q4, rfl, q5, _⟩ := c2.shape
    refine (rel_w (k := k) hw p5 ?_).le (by lia)
    exact q s3 _ hc3 ⟨(a1.trans hs).trans c1, false, (Shp.bin (relw_op hw).2.2 a2 c2).le (by lia), fun _ => rfl⟩
  | @bad1 k1 k2 op nm p ts1 ts2 post t2 hw h1 h2 =>
    have l1 := row_toks (opd_toks n) h1
    have l2 := row_toks (opd_toks n) h2
    refine expL_core ok (by lia) hR hw h1 h2 hc hf (.inr (hcl.resolve_left id)) (.inl .intro) fun s1 x s2 s3 y ho1 hs ho2 hc3 => ?_
    obtain ⟨a1, a2⟩ := ho1
    obtain ⟨c1, b2, c2, c3⟩ := ho2
    have := c3 rfl; subst this
    have hd : Dirty _ _ s3 := (a1.to hs).to c1
    refine (reld_w (k := k) ok (relw_op hw).1 a2 c2.sane (fun kd p i kd' p' j _ e => ?_) (Nat.le_trans hd.len (by lia)) (Nat.le_trans hd.ps (by lia)) fun nd' s' g1 g2 => ?_).le (by lia)
    · obtain ⟨q1, q2, q3, q4, e', q5, _⟩ := c2.shape
      rw [e'] at e
      unfold ND at e
      simp only [MV.finst.injEq, List.cons.injEq, Prod.mk.injEq, true_and, MV.str.injEq] at e
      exact q5 e.1
    · refine q s' _ (g2.cur hc3) ⟨?_, g1⟩
      rw [List.append_assoc]
      exact (g2.dirty hd).le (by simp)
  | @bad2 k1 k2 op nm p ts1 ts2 post t1 hw h1 h2 =>
    have l1 := row_toks (opd_toks n) h1
    have l2 := row_toks (opd_toks n) h2
    have cl := hcl.resolve_left id
    refine expL_core ok (by lia) hR hw h1 h2 hc hf (.inl .intro) (.inr ⟨.intro, cl⟩) fun s1 x s2 s3 y ho1 hs ho2 hc3 => ?_
    obtain ⟨a1, b1, a2, a3⟩ := ho1
    obtain ⟨c1, c2⟩ := ho2
    have := a3 rfl; subst this
    refine (reld_w (k := k) ok (relw_op hw).1 a2.sane c2 (fun kd p i kd' p' j e _ => ?_) (Nat.le_trans c1.len (by lia)) (Nat.le_trans c1.ps (by lia)) fun nd' s' g1 g2 => ?_).le (by lia)
    · obtain ⟨q1, q2, q3, q4, e', q5, _⟩ := a2.shape
      rw [e'] at e
      unfold ND at e
      simp only [MV.finst.injEq, List.cons.injEq, Prod.mk.injEq, true_and, MV.str.injEq] at e
      exact q5 e.1
    · exact q s' _ (g2.cur hc3) ⟨(g2.dirty c1).le (by simp), g1⟩
end
section
variable {W : PAd} {src : Str} {base : MH}
theorem FacC.le {n k k' : Nat} (h : FacC W src base n k) (hk : k ≤ k') : FacC W src base n k' := fun a b d e f => (h a b d e f).le hk
theorem ExpR.le {n k k' : Nat} (h : ExpR W src base n k) (hk : k ≤ k') : ExpR W src base n k' := fun a b d e f => (h a b d e f).le hk
theorem ExpL.le {n k k' : Nat} (h : ExpL W src base n k) (hk : k ≤ k') : ExpL W src base n k' := fun a b d e f => (h a b d e f).le hk
theorem read_w (ok : POKs W src base) (ov : POKv W base) : ∀ n, n ≤ 2 → FacC W src base n (5 * n + 13) ∧ ExpR W src base n (5 * n + 17) ∧ ExpL W src base n (5 * n + 17)
  | 0, _ => by
    have h0 : FacC W src base 0 13 := factor_w ok ov (k := 0) (by decide) fun m hm => by cases hm
    have h1 : RowC W src base 0 16 := rowC ok (k := 5) h0
    exact ⟨h0, expR ok (k := 5) (by decide) h1, expL ok (k := 5) (by decide) h1⟩
  | n + 1, hn => by
    obtain ⟨a, b, d⟩ := read_w ok ov n (by lia)
    have hno : NO (n + 1) ≤ 400 := by
      have : n = 0 ∨ n = 1 := by lia
      rcases this with rfl | rfl <;> decide
    have h0 : FacC W src base (n + 1) (5 * (n + 1) + 13) := factor_w ok ov (k := 5 * (n + 1)) (by lia) fun m hm => by
      obtain rfl : m = n := by lia
      exact ⟨a.le (by lia), b.le (by lia), d.le (by lia)⟩
    have h1 : RowC W src base (n + 1) (5 * (n + 1) + 5 + 11) := rowC ok (k := 5 * (n + 1) + 5) h0
    exact ⟨h0, expR ok (k := 5 * (n + 1) + 5) (by lia) h1, expL ok (k := 5 * (n + 1) + 5) hno h1⟩
end
section
variable {W : PAd} {base : MH} {k : Nat}
theorem shape_w (ov : POKv W base) {d : Nat} {kd : Kd} {b : Bool} {nd due : MV} (h : Shp W d kd b nd due) : ∀ {σ : MH} {Q : MV → MH → Prop}, Sub base σ → Q due σ → FW c (k + d) (.ref (pk.fa 153)) [nd] σ Q := by
  induction h with
  | @var d kd alt p =>
    intro σ Q hs q
    obtain ⟨fs, h0, h1, _⟩ := ov.vd kd alt
    have hn : GA c (k + d) (.ref (W.vo kd alt)) σ "name" (.str (varNames kd alt)) := ga_inst pk.cObj.d (hs _ _ (ov.vo kd alt)) (hs _ _ h0) (.head _) h1
    refine fn_intro pk.fLshape.d rfl ?_
    refine sw_cons ?_
    trivial
    refine ⟨_, hn, ?_⟩
    trivial
    exact q
  | @num d m p h1 h2 =>
    intro σ Q hs q
    refine fn_intro pk.fLshape.d rfl ?_
    refine sw_cons ?_
    trivial
    exact q
  | @un d kd kd1 b name p x dx hn _ ih =>
    intro σ Q hs q
    obtain ⟨n1, n2, n3⟩ := nm_ne hn
    refine fn_intro pk.fLshape.d rfl ?_
    refine sw_cons ?_
    trivial
    refine ew_comp pk.fLshape.g pk.fLshape.k ?_
    trivial
    refine ⟨[x], [dx], rfl, rfl, Nat.le_of_ble_eq_true rfl, ?_, ?_⟩
    · intro i m r hm hr σ₂ hs2 QQ hq
      match i, hm, hr with
      | 0, hm, hr =>
        cases hm; cases hr
        exact (ih (fun a o e => hs2 a o (hs a o e)) hq).cw
    · trivial
      exact q
  | @bin d kd kd1 kd2 b1 b2 name p x dx y dy hn _ _ ih1 ih2 =>
    intro σ Q hs q
    obtain ⟨n1, n2, n3⟩ := nm_ne hn
    refine fn_intro pk.fLshape.d rfl ?_
    refine sw_cons ?_
    trivial
    refine ew_comp pk.fLshape.g pk.fLshape.k ?_
    trivial
    refine ⟨[x, y], [dx, dy], rfl, rfl, Nat.le_of_ble_eq_true rfl, ?_, ?_⟩
    · intro i m r hm hr σ₂ hs2 QQ hq
      match i, hm, hr with
      | 0, hm, hr =>
        cases hm; cases hr
        exact (ih1 (fun a o e => hs2 a o (hs a o e)) hq).cw
      | 1, hm, hr =>
        cases hm; cases hr
        exact (ih2 (fun a o e => hs2 a o (hs a o e)) hq).cw
    · trivial
      exact q
end
theorem div840 (x : Int) : Builtin.divisionGoesByPylong x 840 = false := by
  unfold Builtin.divisionGoesByPylong
  simp only [Bool.and_eq_false_iff, decide_eq_false_iff_not]
  left; decide
section
variable {k : Nat}
noncomputable abbrev poB : List Stmt := fBody (topAt 145)
noncomputable abbrev poFB : List Stmt := foB (stA poB 2)
noncomputable abbrev poIB : List Stmt := foB (stA poFB 3)
noncomputable abbrev poML (D : Addr) (mix : Int) : Loc := [("figures", .ref D), ("mix", .int mix)]
noncomputable abbrev piML (D : Addr) (mix rest : Int) : Loc := [("figures", .ref D), ("mix", .int mix), ("rest", .int rest)]
theorem pool_in {B : MH} {D it : Addr} (hit : B it = none) (hne : it ≠ D) {mix : Int} {R : Fl → Loc → MH → Prop} {pos : Pos} : ∀ (left : Nat) (x rest : Int) (fs : List Int), fs.length + left ≤ 1000 →
    (∀ (fs' : List Int) (ml : Loc) (σ' : MH), fs'.length ≤ fs.length + left → LSub (poML D mix) ml → Sub (updH B D (.list (fs'.map .int))) σ' → R .next ml σ') →
    FOR c k (fScope (topAt 145)) (.Name "step" pos) it poIB (piML D mix rest) (updH (updH B D (.list (fs.map .int))) it (.riter x left)) R := by
  have hsub : ∀ {fs : List Int} {o : MO}, Sub (updH B D (.list (fs.map .int))) (updH (updH B D (.list (fs.map .int))) it o) := fun {fs o} => sub_new (by rw [updH_ne hne]; exact hit)
  intro left
  induction left with
  | zero =>
    intro x rest fs hl q
    refine for_end (nx_rangeend (updH_same ..) (by lia)) (q fs _ _ (Nat.le_refl _) ?_ ?_)
    · repeat (first | exact lsub_nil | refine lsub_cons (by decreasing_trivial) ?_)
    · intro a o e
      unfold delH
      have : a ≠ it := fun h => by subst h; rw [updH_ne hne, hit] at e; cases e
      rw [if_neg this, updH_ne this]; exact e
  | succ left ih =>
    intro x rest fs hl q
    refine for_item (nx_range (updH_same ..) (by lia)) (lg_name rfl) (aw_name ?_)
    rw [updH_updH]
    have hD : ∀ {fs : List Int} {o : MO}, updH (updH B D (.list (fs.map .int))) it o D = some (.list (fs.map .int)) := fun {fs o} => by rw [updH_ne (Ne.symm hne)]; exact updH_same ..
    refine sw_cons ?_
    trivial
    refine ⟨_, mi_append hD, keeps_bi, ?_⟩
    trivial
    refine ow_mod (by decide) ?_
    trivial
    refine cw_append hD (by simp; lia) ?_
    trivial
    refine ow_idiv (by decide) (div840 _) ?_
    trivial
    have es : updH (updH (updH B D (.list (fs.map .int))) it (.riter (x + 1) (((left + 1 : Nat) : Int) - 1))) D (.list (fs.map .int ++ [.int (rest.fmod 840)])) = updH (updH B D (.list ((fs ++ [rest.fmod 840]).map .int))) it (.riter (x + 1) left) := by
      rw [updH_comm hne, updH_updH, List.map_append, show (((left + 1 : Nat) : Int) - 1) = (left : Int) from by lia]; rfl
    rw [es]
    refine if_d (fun e => ?_) (fun e => ?_)
    · trivial
      refine q (fs ++ [rest.fmod 840]) _ _ (by simp only [List.length_append, List.length_singleton]; lia) ?_ hsub
      repeat (first | exact lsub_nil | refine lsub_cons (by decreasing_trivial) ?_)
    · trivial
      refine FOR.loco (l := piML D mix (rest.fdiv 840)) ?_ (ih (x + 1) _ _ (by simp only [List.length_append, List.length_singleton]; lia) fun fs' ml σ' h1 h2 h3 => q fs' ml σ' (by simp only [List.length_append, List.length_singleton] at h1; lia) h2 h3)
      repeat (first | exact lsub_nil | refine lsub_cons (by decreasing_trivial) ?_)
theorem pool_out {σ : MH} {D l it : Addr} (hD : σ D = none) (hl : l ≠ D) (hl0 : σ l = none) (hit : it ≠ D) (hit2 : it ≠ l) (hit0 : σ it = none) {cells : List Int} {R : Fl → Loc → MH → Prop} {pos : Pos}
    (q : ∀ (fs' : List Int) (mix : Int) (ml : Loc) (σ' : MH), fs'.length ≤ 1000 → 0 ≤ mix → mix < 1009 → LSub (poML D mix) ml → Sub (updH σ D (.list (fs'.map .int))) σ' → R .next ml σ') :
    ∀ (cs : List Int) (i : Nat) (mix : Int) (fs : List Int), cells.drop i = cs → fs.length ≤ 400 → 0 ≤ mix → mix < 1009 →
    FOR c (k + 2) (fScope (topAt 145)) (.Name "cell" pos) it poFB (poML D mix) (updH (updH (updH σ D (.list (fs.map .int))) l (.list (cells.map .int))) it (.liter (.ref l) i)) R := by
  have hL : ∀ {fs : List Int} {o : MO}, updH (updH (updH σ D (.list (fs.map .int))) l (.list (cells.map .int))) it o l = some (.list (cells.map .int)) := fun {fs o} => by rw [updH_ne (Ne.symm hit2)]; exact updH_same ..
  have hDD : ∀ {fs : List Int} {o : MO}, updH (updH (updH σ D (.list (fs.map .int))) l (.list (cells.map .int))) it o D = some (.list (fs.map .int)) := fun {fs o} => by rw [updH_ne (Ne.symm hit), updH_ne (Ne.symm hl)]; exact updH_same ..
  have hsub : ∀ {fs : List Int} {o : MO}, Sub (updH σ D (.list (fs.map .int))) (updH (updH (updH σ D (.list (fs.map .int))) l (.list (cells.map .int))) it o) := fun {fs o} => by
    refine sub_new2 (sub_new (by rw [updH_ne hl]; exact hl0)) ?_
    rw [updH_ne hit]; exact hit0
  have hself : ∀ {fs fs' : List Int} {o : MO}, updH (updH (updH (updH σ D (.list (fs.map .int))) l (.list (cells.map .int))) it o) D (.list (fs'.map .int)) = updH (updH (updH σ D (.list (fs'.map .int))) l (.list (cells.map .int))) it o := fun {fs fs' o} => by
    rw [updH_comm hit, updH_comm hl, updH_updH]
  intro cs
  induction cs with
  | nil =>
    intro i mix fs hd hf h0 h1
    refine for_end (nx_listend (updH_same ..) (la_ref hL) (by simp; exact List.drop_eq_nil_iff.mp hd)) (q fs mix _ _ (by lia) h0 h1 LSub.refl ?_)
    intro a o e
    have hne : a ≠ it := fun h => by subst h; rw [updH_ne hit, hit0] at e; cases e
    unfold delH
    rw [if_neg hne]; exact hsub _ _ e
  | cons v cs ih =>
    intro i mix fs hd hf h0 h1
    have hr : (cells.map MV.int)[i]? = some (.int v) := by
      rw [List.getElem?_map]
      have := congrArg (fun l => l[0]?) hd
      simp at this
      rw [this]; rfl
    have hnext : cells.drop (i + 1) = cs := by rw [← List.drop_drop, hd]; rfl
    refine for_item (nx_list (updH_same ..) (la_ref hL) hr) (lg_name rfl) (aw_name ?_)
    rw [updH_updH]
    refine sw_cons ?_
    trivial
    refine ew_callB pk.bint rfl keeps_ty (by decide) ?_
    trivial
    refine cw_int ?_
    trivial
    refine ow_mul (IntMulOk.of_right (by decide)) ?_
    trivial
    refine ow_mod (by decide) ?_
    trivial
    refine ew_callB pk.babs rfl keeps_bi (by decide) ?_
    trivial
    refine cw_abs ?_
    refine beh_next (sw_cons (s_for ?_))
    refine ew_callB pk.brange rfl keeps_ty (by decide) ?_
    trivial
    refine cw_range fun rg hrg => ?_
    refine it_range (updH_same ..) (by decide) (by decide) fun it2 hi2 => ?_
    have hri : rg ≠ it2 := fun e => by subst e; rw [updH_same] at hi2; cases hi2
    rw [updH_ne (Ne.symm hri)] at hi2
    have hi2D : it2 ≠ D := fun e => by subst e; rw [hDD] at hi2; cases hi2
    refine FOR.sub (sub_upd (sub_new hrg)) ?_
    have hm := fmod_range (x := mix * 31 + v) (n := 1009) (by decide)
    refine FOR.loco (l := piML D ((mix * 31 + v).fmod 1009) (v.natAbs : Int)) ?_ ?_
    · repeat (first | exact lsub_nil | refine lsub_cons (by decreasing_trivial) ?_)
    rw [← hself (fs := fs) (fs' := fs)]
    refine pool_in (left := 60) hi2 hi2D 0 (v.natAbs : Int) fs (by lia) fun fs' ml σ' g1 g2 g3 => ?_
    rw [hself] at g3
    refine beh_next (SW.sub g3 (SW.loco g2 (sw_cons ?_)))
    trivial
    refine ew_callB pk.blen rfl keeps_bi (by decide) ?_
    trivial
    refine cw_lenlist (la_ref hDD) (by simp; lia) ?_
    trivial
    rw [List.length_map]
    refine if_d (fun e => ?_) (fun e => ?_)
    · trivial
      exact q fs' _ _ _ (by lia) hm.1 hm.2 LSub.refl hsub
    · trivial
      exact ih (i + 1) _ fs' hnext (by lia) hm.1 hm.2
end
section
variable {k : Nat}
theorem pool_w {σ : MH} {Q : MV → MH → Prop} (hs : c.sn.length ≤ 1000)
    (q : ∀ (D P : Addr) (fs : List Int) (b : Int), σ D = none → σ P = none → P ≠ D → fs.length ≤ 1000 → POK 0 b → Q (.ref P) (updH (updH σ D (.list (fs.map .int))) P (.list [.ref D, .int 0, .int b]))) : FW c (k + 3) (.ref (pk.fa 145)) [.ref c.sl] σ Q := by
  refine FW.drop ?_
  refine fn_intro pk.fLpool.d rfl ?_
  refine sw_cons ?_
  trivial
  refine ew_list (ews_nil ⟨by decide, fun D hD => ?_⟩)
  refine beh_next (sw_cons ?_)
  trivial
  refine s_for ?_
  refine ew_sliceold (b := 40) ?_
  trivial
  refine ⟨hs, fun l hl => ?_⟩
  have hlD : l ≠ D := fun e => by subst e; rw [updH_same] at hl; cases hl
  rw [updH_ne hlD] at hl
  refine it_list (la_ref (updH_same ..)) fun it hit => ?_
  have hil : it ≠ l := fun e => by subst e; rw [updH_same] at hit; cases hit
  rw [updH_ne hil] at hit
  have hiD : it ≠ D := fun e => by subst e; rw [updH_same] at hit; cases hit
  rw [updH_ne hiD] at hit
  refine FOR.loco (l := poML D 5) ?_ (pool_out hD hlD hl hiD hil hit (cells := c.sn.take 40) (fun fs' mix ml σ' g1 g2 g3 g4 g5 => ?_) _ 0 5 [] rfl (by decide) (by decide) (by decide))
  · repeat (first | exact lsub_nil | refine lsub_cons (by decreasing_trivial) ?_)
  refine beh_next (SW.sub g5 (SW.loco g4 (sw_cons ?_)))
  trivial
  refine ew_list ?_
  trivial
  refine fun P hP => ?_
  trivial
  have hPD : P ≠ D := fun e => by subst e; rw [updH_same] at hP; cases hP
  rw [updH_ne hPD] at hP
  exact ⟨_, Sub.refl, q D P fs' mix hD hP hPD g1 ⟨Int.le_refl _, g2, g3⟩⟩
end
section
variable {k : Nat}
/-- a type, made and not yet named -/
noncomputable def tyfs (num : Int) (form : Str) (size : Int) : List (Str × MV) := [("number", .int num), ("form", .str form), ("size", .int size), ("base", .none), ("length", .int 0), ("fields", .flist []), ("level", .int 0), ("params", .flist []), ("module", .str ""), ("label", .str ""), ("hidden", .flist []), ("exno", .int 0)]
theorem type_w {σ : MH} {Q : MV → MH → Prop} {num size : Int} {form : Str} (q : ∀ x dx, σ x = none → σ dx = none → x ≠ dx → Q (.ref x) (INI σ (pk.ca 132) x dx (tyfs num form size))) : CW c (k + 2) (.ref (pk.ca 132)) [.int num, .str form, .int size] σ Q := by
  refine cw_class pk.cType.d (.head _) fun x dx hx hd hne => ?_
  show FW c (k + 1) _ _ (INI σ (pk.ca 132) x dx []) _
  refine fn_intro pk.mType_init.d rfl ?_
  refine sw_cons ?_
  trivial
  have mem : ∀ y ∈ (tyfs num form size).map (·.1), y ∈ (tyfs num form size).map (·.1) := fun _ h => h
  refine uw_ini pk.cType.d hne (.head _) (Nat.zero_le _) rfl ?_
  trivial
  refine uw_ini pk.cType.d hne (.tail _ (.head _)) (Nat.le_of_ble_eq_true rfl) (by decreasing_trivial) ?_
  trivial
  refine uw_ini pk.cType.d hne (.tail _ (.tail _ (.head _))) (Nat.le_of_ble_eq_true rfl) (by decreasing_trivial) ?_
  trivial
  refine uw_ini pk.cType.d hne (List.mem_of_getElem? (i := 3) rfl) (Nat.le_of_ble_eq_true rfl) (by decreasing_trivial) ?_
  trivial
  refine uw_ini pk.cType.d hne (List.mem_of_getElem? (i := 4) rfl) (Nat.le_of_ble_eq_true rfl) (by decreasing_trivial) ?_
  trivial
  refine ew_flist ?_
  trivial
  refine uw_ini pk.cType.d hne (List.mem_of_getElem? (i := 5) rfl) (Nat.le_of_ble_eq_true rfl) (by decreasing_trivial) ?_
  trivial
  refine uw_ini pk.cType.d hne (List.mem_of_getElem? (i := 6) rfl) (Nat.le_of_ble_eq_true rfl) (by decreasing_trivial) ?_
  trivial
  refine ew_flist ?_
  trivial
  refine uw_ini pk.cType.d hne (List.mem_of_getElem? (i := 7) rfl) (Nat.le_of_ble_eq_true rfl) (by decreasing_trivial) ?_
  trivial
  refine uw_ini pk.cType.d hne (List.mem_of_getElem? (i := 8) rfl) (Nat.le_of_ble_eq_true rfl) (by decreasing_trivial) ?_
  trivial
  refine uw_ini pk.cType.d hne (List.mem_of_getElem? (i := 9) rfl) (Nat.le_of_ble_eq_true rfl) (by decreasing_trivial) ?_
  trivial
  refine ew_flist ?_
  trivial
  refine uw_ini pk.cType.d hne (List.mem_of_getElem? (i := 10) rfl) (Nat.le_of_ble_eq_true rfl) (by decreasing_trivial) ?_
  trivial
  refine uw_ini pk.cType.d hne (List.mem_of_getElem? (i := 11) rfl) (Nat.le_of_ble_eq_true rfl) (by decreasing_trivial) ?_
  trivial
  exact q x dx hx hd hne
theorem del_ini {σ : MH} {C x dx : Addr} {fs : List (Str × MV)} (hx : σ x = none) (hd : σ dx = none) (hne : x ≠ dx) : delH (delH (INI σ C x dx fs) x) dx = σ := by
  unfold INI
  rw [delH_updH (by rw [updH_ne hne]; exact hx), delH_updH hd]
theorem new_w {σ : MH} {Q : MV → MH → Prop} {X dX : Addr} {fs : List (Str × MV)} {n size : Int} {form : Str} (h1 : σ X = some (.inst (pk.ca 134) dX)) (h2 : σ dX = some (.ns fs)) (h3 : getF "counter" fs = some (.int n)) (hl : fs.length ≤ 900)
    (q : Q (tyV (n + 1) form size) (updH σ dX (.ns (putF "counter" (.int (n + 1)) fs)))) (h4 : getF "counter" (putF "counter" (.int (n + 1)) fs) = some (.int (n + 1)) := by decreasing_trivial) : FW c (k + 3) (.ref (pk.ma 134 1)) [.ref X, .str form, .int size] σ Q := by
  refine FW.ghost ?_
  refine fn_intro pk.mTypes_new.d rfl ?_
  refine sw_cons ?_
  trivial
  refine ⟨_, ga_inst pk.cTypes.d h1 h2 (.head _) h3, ?_⟩
  trivial
  refine uw_setattr pk.cTypes.d h1 h2 (.head _) hl ?_
  have hne : X ≠ dX := fun e => by subst e; rw [h1] at h2; cases h2
  have h1' : updH σ dX (.ns (putF "counter" (.int (n + 1)) fs)) X = some (.inst (pk.ca 134) dX) := by rw [updH_ne hne]; exact h1
  refine beh_next (sw_cons ?_)
  trivial
  refine ew_callG pk.cType.g pk.cType.k ?_
  trivial
  refine ⟨_, ga_inst pk.cTypes.d h1' (updH_same ..) (.head _) h4, ?_⟩
  trivial
  refine type_w fun x dx hx hd hxd => ?_
  trivial
  have e8 : putF "module" (.str "") (tyfs (n + 1) form size) = tyfs (n + 1) form size := by unfold tyfs; decreasing_trivial
  have e9 : putF "label" (.str "") (tyfs (n + 1) form size) = tyfs (n + 1) form size := by unfold tyfs; decreasing_trivial
  refine uw_ini pk.cType.d hxd (List.mem_of_getElem? (i := 8) rfl) (Nat.le_of_ble_eq_true rfl) e8 ?_
  trivial
  refine uw_ini pk.cType.d hxd (List.mem_of_getElem? (i := 9) rfl) (Nat.le_of_ble_eq_true rfl) e9 ?_
  trivial
  refine Gh.finst (updH_same ..) (by unfold INI; rw [updH_ne (Ne.symm hxd)]; exact updH_same ..) ?_
  rw [del_ini hx hd hxd]
  exact Gh.now q
end
section
variable {k : Nat}
theorem ini_upd {σ : MH} {C x dx a : Addr} {fs : List (Str × MV)} {o : MO} (h1 : a ≠ x) (h2 : a ≠ dx) : updH (INI σ C x dx fs) a o = INI (updH σ a o) C x dx fs := by
  unfold INI
  rw [updH_comm (Ne.symm h1), updH_comm (Ne.symm h2)]
theorem ini_inst {σ : MH} {C x dx : Addr} {fs : List (Str × MV)} : INI σ C x dx fs x = some (.inst C dx) := updH_same ..
theorem ini_ns {σ : MH} {C x dx : Addr} {fs : List (Str × MV)} (h : x ≠ dx) : INI σ C x dx fs dx = some (.ns fs) := by unfold INI; rw [updH_ne (Ne.symm h)]; exact updH_same ..
theorem ini_set {σ : MH} {C x dx : Addr} {fs fs' : List (Str × MV)} (h : x ≠ dx) : updH (INI σ C x dx fs) dx (.ns fs') = INI σ C x dx fs' := by
  unfold INI
  rw [updH_comm h, updH_updH]
/-- one more type made and named -/
theorem newc_w {σ : MH} {Q : MV → MH → Prop} {x dx : Addr} {fs fs' : List (Str × MV)} {n size : Int} {form : Str} (hne : x ≠ dx) (h3 : getF "counter" fs = some (.int n)) (hl : fs.length ≤ 900) (he : putF "counter" (.int (n + 1)) fs = fs') (h4 : getF "counter" fs' = some (.int (n + 1)))
    (q : Q (tyV (n + 1) form size) (INI σ (pk.ca 134) x dx fs')) : FW c (k + 3) (.ref (pk.ma 134 1)) [.ref x, .str form, .int size] (INI σ (pk.ca 134) x dx fs) Q := by
  subst he
  refine new_w ini_inst (ini_ns hne) h3 hl ?_ h4
  rw [ini_set hne]; exact q
theorem types_w {σ : MH} {Q : MV → MH → Prop} (q : ∀ kn, σ kn = none → Q (tysV kn) (updH σ kn (.sd []))) : CW c (k + 5) (.ref (pk.ca 134)) [] σ Q := by
  refine OW.ghost (cw_class pk.cTypes.d (.head _) fun x dx hx hd hne => ?_)
  show FW c (k + 4) _ _ (INI σ (pk.ca 134) x dx []) _
  refine fn_intro pk.mTypes_init.d rfl ?_
  refine sw_cons ?_
  trivial
  refine uw_ini pk.cTypes.d hne (.head _) (Nat.zero_le _) rfl ?_
  refine beh_next (sw_cons ?_)
  trivial
  refine ew_dict0 fun kn hkn => ?_
  have k1 : kn ≠ x := fun e => by subst e; rw [ini_inst] at hkn; cases hkn
  have k2 : kn ≠ dx := fun e => by subst e; rw [ini_ns hne] at hkn; cases hkn
  have hkn0 : σ kn = none := by unfold INI at hkn; rwa [updH_ne k1, updH_ne k2] at hkn
  rw [ini_upd k1 k2]
  trivial
  refine uw_ini pk.cTypes.d hne (.tail _ (.head _)) (Nat.le_of_ble_eq_true rfl) (by decreasing_trivial) ?_
  trivial
  refine ⟨_, mi_inst pk.cTypes.d ini_inst (ini_ns hne) (.tail _ (.head _)) (by decreasing_trivial), keeps_ref (pk.cTypes.d.meth _ _ (.tail _ (.head _))).2.2, ?_⟩
  trivial
  refine FW.cw (newc_w hne (n := 0) (by decreasing_trivial) (Nat.le_of_ble_eq_true rfl) (by decreasing_trivial) (by decreasing_trivial) ?_)
  trivial
  refine uw_ini pk.cTypes.d hne (List.mem_of_getElem? (i := 2) rfl) (Nat.le_of_ble_eq_true rfl) (by decreasing_trivial) ?_
  trivial
  refine ⟨_, mi_inst pk.cTypes.d ini_inst (ini_ns hne) (.tail _ (.head _)) (by decreasing_trivial), keeps_ref (pk.cTypes.d.meth _ _ (.tail _ (.head _))).2.2, ?_⟩
  trivial
  refine FW.cw (newc_w hne (n := 1) (by decreasing_trivial) (Nat.le_of_ble_eq_true rfl) (by decreasing_trivial) (by decreasing_trivial) ?_)
  trivial
  refine uw_ini pk.cTypes.d hne (List.mem_of_getElem? (i := 3) rfl) (Nat.le_of_ble_eq_true rfl) (by decreasing_trivial) ?_
  trivial
  refine ⟨_, mi_inst pk.cTypes.d ini_inst (ini_ns hne) (.tail _ (.head _)) (by decreasing_trivial), keeps_ref (pk.cTypes.d.meth _ _ (.tail _ (.head _))).2.2, ?_⟩
  trivial
  refine FW.cw (newc_w hne (n := 2) (by decreasing_trivial) (Nat.le_of_ble_eq_true rfl) (by decreasing_trivial) (by decreasing_trivial) ?_)
  trivial
  refine uw_ini pk.cTypes.d hne (List.mem_of_getElem? (i := 4) rfl) (Nat.le_of_ble_eq_true rfl) (by decreasing_trivial) ?_
  trivial
  refine ⟨_, mi_inst pk.cTypes.d ini_inst (ini_ns hne) (.tail _ (.head _)) (by decreasing_trivial), keeps_ref (pk.cTypes.d.meth _ _ (.tail _ (.head _))).2.2, ?_⟩
  trivial
  refine FW.cw (newc_w hne (n := 3) (by decreasing_trivial) (Nat.le_of_ble_eq_true rfl) (by decreasing_trivial) (by decreasing_trivial) ?_)
  trivial
  refine uw_ini pk.cTypes.d hne (List.mem_of_getElem? (i := 5) rfl) (Nat.le_of_ble_eq_true rfl) (by decreasing_trivial) ?_
  trivial
  refine ⟨_, mi_inst pk.cTypes.d ini_inst (ini_ns hne) (.tail _ (.head _)) (by decreasing_trivial), keeps_ref (pk.cTypes.d.meth _ _ (.tail _ (.head _))).2.2, ?_⟩
  trivial
  refine FW.cw (newc_w hne (n := 4) (by decreasing_trivial) (Nat.le_of_ble_eq_true rfl) (by decreasing_trivial) (by decreasing_trivial) ?_)
  trivial
  refine uw_ini pk.cTypes.d hne (List.mem_of_getElem? (i := 6) rfl) (Nat.le_of_ble_eq_true rfl) (by decreasing_trivial) ?_
  trivial
  refine ⟨_, mi_inst pk.cTypes.d ini_inst (ini_ns hne) (.tail _ (.head _)) (by decreasing_trivial), keeps_ref (pk.cTypes.d.meth _ _ (.tail _ (.head _))).2.2, ?_⟩
  trivial
  refine FW.cw (newc_w hne (n := 5) (by decreasing_trivial) (Nat.le_of_ble_eq_true rfl) (by decreasing_trivial) (by decreasing_trivial) ?_)
  trivial
  refine uw_ini pk.cTypes.d hne (List.mem_of_getElem? (i := 7) rfl) (Nat.le_of_ble_eq_true rfl) (by decreasing_trivial) ?_
  trivial
  refine ⟨_, mi_inst pk.cTypes.d ini_inst (ini_ns hne) (.tail _ (.head _)) (by decreasing_trivial), keeps_ref (pk.cTypes.d.meth _ _ (.tail _ (.head _))).2.2, ?_⟩
  trivial
  refine FW.cw (newc_w hne (n := 6) (by decreasing_trivial) (Nat.le_of_ble_eq_true rfl) (by decreasing_trivial) (by decreasing_trivial) ?_)
  trivial
  refine uw_ini pk.cTypes.d hne (List.mem_of_getElem? (i := 8) rfl) (Nat.le_of_ble_eq_true rfl) (by decreasing_trivial) ?_
  trivial
  refine Gh.finst ini_inst (ini_ns hne) ?_
  rw [del_ini (by rw [updH_ne (Ne.symm k1)]; exact hx) (by rw [updH_ne (Ne.symm k2)]; exact hd) hne]
  exact Gh.now (q kn hkn0)
end
section
variable {k : Nat}
theorem errs_w {σ : MH} {Q : MV → MH → Prop} (q : ∀ er erd rows places, σ er = none → σ erd = none → σ rows = none → σ places = none → er ≠ erd → rows ≠ er → rows ≠ erd → places ≠ er → places ≠ erd → places ≠ rows →
      Q (.ref er) (INI (updH (updH σ rows (.list [])) places (.idt [])) (pk.ca 119) er erd [("rows", .ref rows), ("places", .ref places)])) : CW c (k + 2) (.ref (pk.ca 119)) [] σ Q := by
  refine cw_class pk.cErrorList.d (.head _) fun x dx hx hd hne => ?_
  show FW c (k + 1) _ _ (INI σ (pk.ca 119) x dx []) _
  refine fn_intro pk.mErrorList_init.d rfl ?_
  refine sw_cons ?_
  trivial
  refine ew_list (ews_nil ⟨by decide, fun rows hr => ?_⟩)
  have r1 : rows ≠ x := fun e => by subst e; rw [ini_inst] at hr; cases hr
  have r2 : rows ≠ dx := fun e => by subst e; rw [ini_ns hne] at hr; cases hr
  have hr0 : σ rows = none := by unfold INI at hr; rwa [updH_ne r1, updH_ne r2] at hr
  rw [ini_upd r1 r2]
  trivial
  refine uw_ini pk.cErrorList.d hne (.head _) (Nat.zero_le _) rfl ?_
  refine beh_next (sw_cons ?_)
  trivial
  refine ew_dict0i fun pl hp => ?_
  have p1 : pl ≠ x := fun e => by subst e; rw [ini_inst] at hp; cases hp
  have p2 : pl ≠ dx := fun e => by subst e; rw [ini_ns hne] at hp; cases hp
  have hp0 : updH σ rows (.list []) pl = none := by unfold INI at hp; rwa [updH_ne p1, updH_ne p2] at hp
  have p3 : pl ≠ rows := fun e => by subst e; rw [updH_same] at hp0; cases hp0
  rw [updH_ne p3] at hp0
  rw [ini_upd p1 p2]
  trivial
  refine uw_ini pk.cErrorList.d hne (.tail _ (.head _)) (Nat.le_of_ble_eq_true rfl) (by decreasing_trivial) ?_
  trivial
  exact q x dx rows pl hx hd hr0 hp0 hne r1 r2 p1 p2 p3
end
section
variable {k : Nat}
theorem keywords_w {σ : MH} {Q : MV → MH → Prop} (q : Q (.tup (kwL.map .str)) σ) : FW c (k + 1) (.ref (pk.fa 124)) [] σ Q := by
  refine fn_intro pk.fkeywords.d rfl ?_
  refine sw_cons ?_
  trivial
  exact q
theorem scanner_w {σ : MH} {Q : MV → MH → Prop} {src : Str} {er : Addr} (q : ∀ sc scd, σ sc = none → σ scd = none → sc ≠ scd → Q (.ref sc) (INI σ (pk.ca 130) sc scd [("source", .str src), ("errors", .ref er), ("place", .int 0), ("words", .tup (kwL.map .str))])) : CW c (k + 3) (.ref (pk.ca 130)) [.str src, .ref er] σ Q := by
  refine cw_class pk.cScanner.d (.head _) fun x dx hx hd hne => ?_
  show FW c (k + 2) _ _ (INI σ (pk.ca 130) x dx []) _
  refine fn_intro pk.mScanner_init.d rfl ?_
  refine sw_cons ?_
  trivial
  refine uw_ini pk.cScanner.d hne (.head _) (Nat.zero_le _) rfl ?_
  trivial
  refine uw_ini pk.cScanner.d hne (.tail _ (.head _)) (Nat.le_of_ble_eq_true rfl) (by decreasing_trivial) ?_
  trivial
  refine uw_ini pk.cScanner.d hne (.tail _ (.tail _ (.head _))) (Nat.le_of_ble_eq_true rfl) (by decreasing_trivial) ?_
  trivial
  refine ew_callG pk.fkeywords.g pk.fkeywords.k ?_
  trivial
  refine FW.cw (keywords_w ?_)
  trivial
  refine uw_ini pk.cScanner.d hne (.tail _ (.tail _ (.tail _ (.head _)))) (Nat.le_of_ble_eq_true rfl) (by decreasing_trivial) ?_
  trivial
  exact q x dx hx hd hne
theorem scope_w {σ : MH} {Q : MV → MH → Prop} {lv : Int} (q : ∀ g gd nm od, σ g = none → σ gd = none → σ nm = none → σ od = none → g ≠ gd → nm ≠ g → nm ≠ gd → od ≠ g → od ≠ gd → od ≠ nm →
      Q (.ref g) (INI (updH (updH σ nm (.sd [])) od (.list [])) (pk.ca 136) g gd [("level", .int lv), ("label", .str ""), ("names", .ref nm), ("order", .ref od), ("slots", .int 0)])) : CW c (k + 2) (.ref (pk.ca 136)) [.int lv, .str ""] σ Q := by
  refine cw_class pk.cScope.d (.head _) fun x dx hx hd hne => ?_
  show FW c (k + 1) _ _ (INI σ (pk.ca 136) x dx []) _
  refine fn_intro pk.mScope_init.d rfl ?_
  refine sw_cons ?_
  trivial
  refine uw_ini pk.cScope.d hne (.head _) (Nat.zero_le _) rfl ?_
  trivial
  refine uw_ini pk.cScope.d hne (.tail _ (.head _)) (Nat.le_of_ble_eq_true rfl) (by decreasing_trivial) ?_
  refine beh_next (sw_cons ?_)
  trivial
  refine ew_dict0 fun nm hr => ?_
  have r1 : nm ≠ x := fun e => by subst e; rw [ini_inst] at hr; cases hr
  have r2 : nm ≠ dx := fun e => by subst e; rw [ini_ns hne] at hr; cases hr
  have hr0 : σ nm = none := by unfold INI at hr; rwa [updH_ne r1, updH_ne r2] at hr
  rw [ini_upd r1 r2]
  trivial
  refine uw_ini pk.cScope.d hne (.tail _ (.tail _ (.head _))) (Nat.le_of_ble_eq_true rfl) (by decreasing_trivial) ?_
  refine beh_next (sw_cons ?_)
  trivial
  refine ew_list (ews_nil ⟨by decide, fun od hp => ?_⟩)
  have p1 : od ≠ x := fun e => by subst e; rw [ini_inst] at hp; cases hp
  have p2 : od ≠ dx := fun e => by subst e; rw [ini_ns hne] at hp; cases hp
  have hp0 : updH σ nm (.sd []) od = none := by unfold INI at hp; rwa [updH_ne p1, updH_ne p2] at hp
  have p3 : od ≠ nm := fun e => by subst e; rw [updH_same] at hp0; cases hp0
  rw [updH_ne p3] at hp0
  rw [ini_upd p1 p2]
  trivial
  refine uw_ini pk.cScope.d hne (.tail _ (.tail _ (.tail _ (.head _)))) (Nat.le_of_ble_eq_true rfl) (by decreasing_trivial) ?_
  trivial
  refine uw_ini pk.cScope.d hne (.tail _ (.tail _ (.tail _ (.tail _ (.head _))))) (Nat.le_of_ble_eq_true rfl) (by decreasing_trivial) ?_
  trivial
  exact q x dx nm od hx hd hr0 hp0 hne r1 r2 p1 p2 p3
end
section
variable {k : Nat}
noncomputable def obfs (name kind : Str) (t : MV) (p : Int) : List (Str × MV) := [("name", .str name), ("kind", .str kind), ("type", t), ("place", .int p), ("exported", .bool false), ("readonly", .bool false), ("level", .int 0), ("module", .str ""), ("value", .none), ("slot", .int 0), ("offset", .int 0), ("number", .int 0), ("isparam", .bool false), ("narrowed", .none)]
theorem obj_w {σ : MH} {Q : MV → MH → Prop} {name kind : Str} {t : MV} {p : Int} (q : ∀ o od, σ o = none → σ od = none → o ≠ od → Q (.ref o) (INI σ (pk.ca 133) o od (obfs name kind t p))) : CW c (k + 2) (.ref (pk.ca 133)) [.str name, .str kind, t, .int p] σ Q := by
  refine cw_class pk.cObj.d (.head _) fun x dx hx hd hne => ?_
  show FW c (k + 1) _ _ (INI σ (pk.ca 133) x dx []) _
  refine fn_intro pk.mObj_init.d rfl ?_
  refine sw_cons ?_
  trivial
  refine uw_ini pk.cObj.d hne (List.mem_of_getElem? (i := 0) rfl) (Nat.le_of_ble_eq_true rfl) rfl ?_
  trivial
  refine uw_ini pk.cObj.d hne (List.mem_of_getElem? (i := 1) rfl) (Nat.le_of_ble_eq_true rfl) (by decreasing_trivial) ?_
  trivial
  refine uw_ini pk.cObj.d hne (List.mem_of_getElem? (i := 2) rfl) (Nat.le_of_ble_eq_true rfl) (by decreasing_trivial) ?_
  trivial
  refine uw_ini pk.cObj.d hne (List.mem_of_getElem? (i := 3) rfl) (Nat.le_of_ble_eq_true rfl) (by decreasing_trivial) ?_
  trivial
  refine uw_ini pk.cObj.d hne (List.mem_of_getElem? (i := 4) rfl) (Nat.le_of_ble_eq_true rfl) (by decreasing_trivial) ?_
  trivial
  refine uw_ini pk.cObj.d hne (List.mem_of_getElem? (i := 5) rfl) (Nat.le_of_ble_eq_true rfl) (by decreasing_trivial) ?_
  trivial
  refine uw_ini pk.cObj.d hne (List.mem_of_getElem? (i := 6) rfl) (Nat.le_of_ble_eq_true rfl) (by decreasing_trivial) ?_
  trivial
  refine uw_ini pk.cObj.d hne (List.mem_of_getElem? (i := 7) rfl) (Nat.le_of_ble_eq_true rfl) (by decreasing_trivial) ?_
  trivial
  refine uw_ini pk.cObj.d hne (List.mem_of_getElem? (i := 8) rfl) (Nat.le_of_ble_eq_true rfl) (by decreasing_trivial) ?_
  trivial
  refine uw_ini pk.cObj.d hne (List.mem_of_getElem? (i := 9) rfl) (Nat.le_of_ble_eq_true rfl) (by decreasing_trivial) ?_
  trivial
  refine uw_ini pk.cObj.d hne (List.mem_of_getElem? (i := 10) rfl) (Nat.le_of_ble_eq_true rfl) (by decreasing_trivial) ?_
  trivial
  refine uw_ini pk.cObj.d hne (List.mem_of_getElem? (i := 11) rfl) (Nat.le_of_ble_eq_true rfl) (by decreasing_trivial) ?_
  trivial
  refine uw_ini pk.cObj.d hne (List.mem_of_getElem? (i := 12) rfl) (Nat.le_of_ble_eq_true rfl) (by decreasing_trivial) ?_
  trivial
  refine uw_ini pk.cObj.d hne (List.mem_of_getElem? (i := 13) rfl) (Nat.le_of_ble_eq_true rfl) (by decreasing_trivial) ?_
  trivial
  exact q x dx hx hd hne
end
/-- a scope's own addresses -/
structure GAdr where
  ss : Addr
  ssd : Addr
  stk : Addr
  g : Addr
  gd : Addr
  nm : Addr
  od : Addr
noncomputable def scpfs (G : GAdr) (lv slots : Int) : List (Str × MV) := [("level", .int lv), ("label", .str ""), ("names", .ref G.nm), ("order", .ref G.od), ("slots", .int slots)]
noncomputable def SCS (G : GAdr) (base : MH) (names : List (Str × MV)) (order : List MV) (lv slots : Int) : MH :=
  updH (updH (updH base G.nm (.sd names)) G.od (.list order)) G.gd (.ns (scpfs G lv slots))
structure SCOK (G : GAdr) (base : MH) (tys : MV) (pre : List MV) (lv : Int) : Prop where
  ss : base G.ss = some (.inst (pk.ca 137) G.ssd)
  ssd : base G.ssd = some (.ns [("types", tys), ("module", .str ""), ("stack", .ref G.stk), ("level", .int lv)])
  stk : base G.stk = some (.list (pre ++ [.ref G.g]))
  g : base G.g = some (.inst (pk.ca 136) G.gd)
  f1 : base G.nm = none
  f2 : base G.od = none
  f3 : base G.gd = none
  n12 : G.nm ≠ G.od
  n13 : G.nm ≠ G.gd
  n23 : G.od ≠ G.gd
section
variable {G : GAdr} {base : MH} {tys : MV} {pre : List MV} {lv slots : Int} {names : List (Str × MV)} {order : List MV}
theorem scs_at (ok : SCOK G base tys pre lv) {a : Addr} {o : MO} (h : base a = some o) {l2 : Int} : SCS G base names order l2 slots a = some o := by
  unfold SCS
  rw [updH_ne (ne_of_fresh ok.f3 h), updH_ne (ne_of_fresh ok.f2 h), updH_ne (ne_of_fresh ok.f1 h)]; exact h
theorem scs_nm (ok : SCOK G base tys pre lv) {l2 : Int} : SCS G base names order l2 slots G.nm = some (.sd names) := by
  unfold SCS; rw [updH_ne ok.n13, updH_ne ok.n12]; exact updH_same ..
theorem scs_od (ok : SCOK G base tys pre lv) {l2 : Int} : SCS G base names order l2 slots G.od = some (.list order) := by
  unfold SCS; rw [updH_ne ok.n23]; exact updH_same ..
theorem scs_gd {l2 : Int} : SCS G base names order l2 slots G.gd = some (.ns (scpfs G l2 slots)) := updH_same ..
theorem scs_setnm (ok : SCOK G base tys pre lv) {l2 : Int} {n' : List (Str × MV)} : updH (SCS G base names order l2 slots) G.nm (.sd n') = SCS G base n' order l2 slots := by
  unfold SCS; rw [updH_comm (Ne.symm ok.n13), updH_comm (Ne.symm ok.n12), updH_updH]
theorem scs_setod (ok : SCOK G base tys pre lv) {l2 : Int} {o' : List MV} : updH (SCS G base names order l2 slots) G.od (.list o') = SCS G base names o' l2 slots := by
  unfold SCS; rw [updH_comm (Ne.symm ok.n23), updH_updH]
theorem scs_setgd {l2 s2 : Int} : updH (SCS G base names order l2 slots) G.gd (.ns (scpfs G l2 s2)) = SCS G base names order l2 s2 := by
  unfold SCS; rw [updH_updH]
end
section
variable {G : GAdr} {base : MH} {tys : MV} {pre : List MV} {lv slots : Int} {names : List (Str × MV)} {order : List MV} {k : Nat}
theorem scs_fresh (ok : SCOK G base tys pre lv) {a : Addr} (h : SCS G base names order lv slots a = none) : a ≠ G.nm ∧ a ≠ G.od ∧ a ≠ G.gd ∧ base a = none := by
  have h1 : a ≠ G.gd := fun e => by subst e; rw [scs_gd] at h; cases h
  have h2 : a ≠ G.od := fun e => by subst e; rw [scs_od ok] at h; cases h
  have h3 : a ≠ G.nm := fun e => by subst e; rw [scs_nm ok] at h; cases h
  refine ⟨h3, h2, h1, ?_⟩
  unfold SCS at h; rwa [updH_ne h1, updH_ne h2, updH_ne h3] at h
theorem scs_upd {a : Addr} {o : MO} (h1 : a ≠ G.nm) (h2 : a ≠ G.od) (h3 : a ≠ G.gd) : updH (SCS G base names order lv slots) a o = SCS G (updH base a o) names order lv slots := by
  unfold SCS
  rw [updH_comm (Ne.symm h3), updH_comm (Ne.symm h2), updH_comm (Ne.symm h1)]
theorem SCOK.new (ok : SCOK G base tys pre lv) {a : Addr} {o : MO} (h0 : base a = none) (h1 : a ≠ G.nm) (h2 : a ≠ G.od) (h3 : a ≠ G.gd) : SCOK G (updH base a o) tys pre lv :=
  ⟨updH_new h0 ok.ss, updH_new h0 ok.ssd, updH_new h0 ok.stk, updH_new h0 ok.g, by rw [updH_ne (Ne.symm h1)]; exact ok.f1, by rw [updH_ne (Ne.symm h2)]; exact ok.f2, by rw [updH_ne (Ne.symm h3)]; exact ok.f3, ok.n12, ok.n13, ok.n23⟩
end
section
variable {G : GAdr} {base : MH} {tys : MV} {pre : List MV} {lv slots : Int} {names : List (Str × MV)} {order : List MV} {k : Nat} {Q : MV → MH → Prop}
theorem ne_of_fresh' {σ : MH} {a b : Addr} {o : MO} (h : σ a = none) (h' : σ b = some o) : b ≠ a := fun e => by subst e; rw [h] at h'; cases h'
theorem add_w (ok : SCOK G base tys pre lv) {o dd : Addr} {fs : List (Str × MV)} {x kind : Str} (h1 : base o = some (.inst (pk.ca 133) dd)) (h2 : base dd = some (.ns fs)) (h3 : getF "name" fs = some (.str x)) (h4 : getF "kind" fs = some (.str kind)) (hfl : fs.length ≤ 900)
    (hx : getF x names = none) (hn : names.length ≤ 9000) (ho : order.length ≤ 9000)
    (q : Q (.bool true) (if kind = "var" then SCS G (updH base dd (.ns (putF "slot" (.int slots) fs))) (putF x (.ref o) names) (order ++ [.ref o]) lv (slots + 1) else SCS G base (putF x (.ref o) names) (order ++ [.ref o]) lv slots)) (hpar : ¬ kind = "par") :
    FW c (k + 1) (.ref (pk.ma 137 4)) [.ref G.ss, .ref o] (SCS G base names order lv slots) Q := by
  have lvf : getF "names" (scpfs G lv slots) = some (.ref G.nm) := by unfold scpfs; decreasing_trivial
  have odf : getF "order" (scpfs G lv slots) = some (.ref G.od) := by unfold scpfs; decreasing_trivial
  have slf : getF "slots" (scpfs G lv slots) = some (.int slots) := by unfold scpfs; decreasing_trivial
  have ga : ∀ {y : Str} {r : MV} {names : List (Str × MV)} {order : List MV}, y ∈ (scpfs G lv slots).map (·.1) → getF y (scpfs G lv slots) = some r → GA c k (.ref G.g) (SCS G base names order lv slots) y r := fun {y r names order} hy h => ga_inst pk.cScope.d (scs_at ok ok.g) scs_gd hy h
  have go : ∀ {y : Str} {r : MV} {names : List (Str × MV)} {order : List MV}, y ∈ (obfs "" "" .none 0).map (·.1) → getF y fs = some r → GA c k (.ref o) (SCS G base names order lv slots) y r := fun {y r names order} hy h => ga_inst pk.cObj.d (scs_at ok h1) (scs_at ok h2) hy h
  refine fn_intro pk.mScopes_add.d rfl ?_
  refine sw_cons ?_
  trivial
  refine ⟨_, ga_inst pk.cScopes.d (scs_at ok ok.ss) (scs_at ok ok.ssd) (.tail _ (.tail _ (.head _))) (r := .ref G.stk) (by decreasing_trivial), ?_⟩
  trivial
  refine ⟨st_list (la_ref (scs_at ok ok.stk)), ow_idxneg (la_ref (scs_at ok ok.stk)) (r := .ref G.g) (by simp) ?_⟩
  trivial
  refine ⟨_, go (.head _) h3, ?_⟩
  trivial
  refine ⟨_, ga (.tail _ (.tail _ (.head _))) lvf, ?_⟩
  trivial
  refine ow_insd (scs_nm ok) ?_
  rw [hx]
  trivial
  refine if_f ?_
  trivial
  refine ⟨_, ga (.tail _ (.tail _ (.head _))) lvf, ?_⟩
  trivial
  refine ⟨_, go (.head _) h3, ?_⟩
  refine uw_setsd (scs_nm ok) (by lia) ?_
  rw [scs_setnm ok]
  trivial
  refine ⟨_, ga (.tail _ (.tail _ (.tail _ (.head _)))) odf, ?_⟩
  trivial
  refine ⟨_, mi_append (scs_od ok), keeps_bi, ?_⟩
  trivial
  refine cw_append (scs_od ok) (by lia) ?_
  rw [scs_setod ok]
  trivial
  refine ⟨_, go (.tail _ (.head _)) h4, ?_⟩
  trivial
  refine if_d (fun e => ?_) (fun e => ?_)
  · rw [if_pos e] at q
    trivial
    have d1 : dd ≠ G.nm := ne_of_fresh' ok.f1 h2
    have d2 : dd ≠ G.od := ne_of_fresh' ok.f2 h2
    have d3 : dd ≠ G.gd := ne_of_fresh' ok.f3 h2
    have hg : G.g ≠ dd := fun e => by have := ok.g; rw [e, h2] at this; cases this
    have hgg : ∀ {names : List (Str × MV)} {order : List MV} {fs' : List (Str × MV)} {s2 : Int}, SCS G (updH base dd (.ns fs')) names order lv s2 G.g = some (.inst (pk.ca 136) G.gd) := fun {names order fs' s2} => by
      rw [← scs_upd d1 d2 d3, updH_ne hg]; exact scs_at ok ok.g
    refine ⟨_, ga (.tail _ (.tail _ (.tail _ (.tail _ (.head _))))) slf, ?_⟩
    trivial
    refine uw_setattr pk.cObj.d (scs_at ok h1) (scs_at ok h2) (List.mem_of_getElem? (i := 9) rfl) hfl ?_
    rw [scs_upd d1 d2 d3]
    trivial
    refine ⟨_, ga_inst pk.cScope.d hgg scs_gd (.tail _ (.tail _ (.tail _ (.tail _ (.head _))))) slf, ?_⟩
    trivial
    refine uw_setattr pk.cScope.d hgg scs_gd (.tail _ (.tail _ (.tail _ (.tail _ (.head _))))) (Nat.le_of_ble_eq_true rfl) ?_
    rw [show putF "slots" (.int (slots + 1)) (scpfs G lv slots) = scpfs G lv (slots + 1) from by unfold scpfs; decreasing_trivial, scs_setgd]
    trivial
    exact q
  · rw [if_neg e] at q
    trivial
    refine ⟨_, go (.tail _ (.head _)) h4, ?_⟩
    trivial
    exact q
end
section
variable {G : GAdr} {base : MH} {tys : MV} {pre : List MV} {lv slots : Int} {names : List (Str × MV)} {order : List MV} {k : Nat} {Q : MV → MH → Prop}
theorem insert_w (ok : SCOK G base tys pre lv) (hlv : lv = -1 ∨ lv = 0) {x kind : Str} {t : MV} (hx : getF x names = none) (hn : names.length ≤ 9000) (ho : order.length ≤ 9000) (hpar : ¬ kind = "par")
    (q : ∀ o dd, base o = none → base dd = none → o ≠ dd → (∀ a ∈ ([o, dd] : List Addr), a ≠ G.nm ∧ a ≠ G.od ∧ a ≠ G.gd) →
      Q (.ref o) (if kind = "var" then SCS G (INI base (pk.ca 133) o dd (putF "slot" (.int slots) (obfs x kind t 0))) (putF x (.ref o) names) (order ++ [.ref o]) lv (slots + 1) else SCS G (INI base (pk.ca 133) o dd (obfs x kind t 0)) (putF x (.ref o) names) (order ++ [.ref o]) lv slots)) :
    FW c (k + 3) (.ref (pk.ma 137 5)) [.ref G.ss, .str x, .str kind, t, .int 0] (SCS G base names order lv slots) Q := by
  refine fn_intro pk.mScopes_insert.d rfl ?_
  refine sw_cons ?_
  trivial
  refine ew_callG pk.cObj.g pk.cObj.k ?_
  trivial
  refine obj_w fun o dd h1 h2 hne => ?_
  obtain ⟨a1, a2, a3, a4⟩ := scs_fresh ok h1
  obtain ⟨b1, b2, b3, b4⟩ := scs_fresh ok h2
  have e0 : INI (SCS G base names order lv slots) (pk.ca 133) o dd (obfs x kind t 0) = SCS G (INI base (pk.ca 133) o dd (obfs x kind t 0)) names order lv slots := by
    unfold INI; rw [scs_upd b1 b2 b3, scs_upd a1 a2 a3]
  have ok2 : SCOK G (INI base (pk.ca 133) o dd (obfs x kind t 0)) tys pre lv := (ok.new b4 b1 b2 b3).new (by rw [updH_ne hne]; exact a4) a1 a2 a3
  rw [e0]
  have glv : ∀ {k : Nat}, GA c k (.ref G.ss) (SCS G (INI base (pk.ca 133) o dd (obfs x kind t 0)) names order lv slots) "level" (.int lv) := fun {k} => ga_inst pk.cScopes.d (scs_at ok2 ok2.ss) (scs_at ok2 ok2.ssd) (List.mem_of_getElem? (i := 3) rfl) (by decreasing_trivial)
  have gmo : ∀ {k : Nat}, GA c k (.ref G.ss) (SCS G (INI base (pk.ca 133) o dd (obfs x kind t 0)) names order lv slots) "module" (.str "") := fun {k} => ga_inst pk.cScopes.d (scs_at ok2 ok2.ss) (scs_at ok2 ok2.ssd) (List.mem_of_getElem? (i := 1) rfl) (by decreasing_trivial)
  trivial
  refine ew_callB pk.bmax rfl keeps_bi (by decide) ?_
  trivial
  refine ⟨_, glv, ?_⟩
  trivial
  refine cw_max ?_
  trivial
  rw [show (if (0 : Int) > lv then 0 else lv) = 0 from by rcases hlv with rfl | rfl <;> decide]
  have hi : INI base (pk.ca 133) o dd (obfs x kind t 0) o = some (.inst (pk.ca 133) dd) := ini_inst
  have hd : INI base (pk.ca 133) o dd (obfs x kind t 0) dd = some (.ns (obfs x kind t 0)) := ini_ns hne
  have upd : ∀ {fs' : List (Str × MV)}, updH (SCS G (INI base (pk.ca 133) o dd (obfs x kind t 0)) names order lv slots) dd (.ns fs') = SCS G (INI base (pk.ca 133) o dd fs') names order lv slots := fun {fs'} => by
    rw [scs_upd b1 b2 b3, ini_set hne]
  refine uw_setattr pk.cObj.d (scs_at ok2 hi) (scs_at ok2 hd) (List.mem_of_getElem? (i := 6) rfl) (Nat.le_of_ble_eq_true rfl) ?_
  rw [show putF "level" (.int 0) (obfs x kind t 0) = obfs x kind t 0 from by unfold obfs; decreasing_trivial, upd]
  have fin : SW c (k + 2) (fScope (metAt 137 5)) ((fBody (metAt 137 5)).drop 3) (setM "obj" (.ref o) ([("self" : Str), "name", "kind", "t", "place"].zip ([.ref G.ss, .str x, .str kind, t, .int 0] ++ []))) (SCS G (INI base (pk.ca 133) o dd (obfs x kind t 0)) names order lv slots) (retP Q) := by
    refine sw_cons ?_
    trivial
    refine ⟨_, mi_inst pk.cScopes.d (scs_at ok2 ok2.ss) (scs_at ok2 ok2.ssd) (.tail _ (.tail _ (.head _))) (by decreasing_trivial), keeps_ref (pk.cScopes.d.meth _ _ (.tail _ (.tail _ (.head _)))).2.2, ?_⟩
    trivial
    refine FW.cw ((add_w (k := k) ok2 hi hd (by unfold obfs; decreasing_trivial) (by unfold obfs; decreasing_trivial) (Nat.le_of_ble_eq_true rfl) hx hn ho ?_ hpar).le (by lia))
    have q2 := q o dd a4 b4 hne (fun a ha => by
      rcases List.mem_cons.mp ha with rfl | ha
      · exact ⟨a1, a2, a3⟩
      · rw [List.mem_singleton.mp ha]; exact ⟨b1, b2, b3⟩)
    trivial
    rw [ini_set hne]; dsimp only; rw [Bool.not_true]
    trivial
    exact q2
  refine beh_next (sw_cons ?_)
  trivial
  refine ⟨_, glv, ?_⟩
  trivial
  refine if_d (fun e => ?_) (fun e => ?_)
  · trivial
    refine ⟨_, gmo, ?_⟩
    trivial
    refine uw_setattr pk.cObj.d (scs_at ok2 hi) (scs_at ok2 hd) (List.mem_of_getElem? (i := 7) rfl) (Nat.le_of_ble_eq_true rfl) ?_
    rw [show putF "module" (.str "") (obfs x kind t 0) = obfs x kind t 0 from by unfold obfs; decreasing_trivial, upd]
    exact beh_next (sw_nil (beh_next fin))
  · exact sw_nil (beh_next fin)
end
/-- all that is known is kept, but for some addresses -/
noncomputable def KB (l : List Addr) (σ σ' : MH) : Prop := ∀ a o, a ∉ l → σ a = some o → σ' a = some o
theorem KB.refl {l : List Addr} {σ : MH} : KB l σ σ := fun _ _ _ h => h
theorem KB.trans {l : List Addr} {σ σ' σ'' : MH} (h : KB l σ σ') (h' : KB l σ' σ'') : KB l σ σ'' := fun a o n e => h' a o n (h a o n e)
theorem KB.mono {l l' : List Addr} {σ σ' : MH} (h : KB l σ σ') (hl : ∀ a ∈ l, a ∈ l') : KB l' σ σ' := fun a o n e => h a o (fun m => n (hl a m)) e
theorem kb_upd {l : List Addr} {σ : MH} {a : Addr} {o : MO} (h : a ∈ l) : KB l σ (updH σ a o) := fun b x n e => by rw [updH_ne (fun q => n (by rw [q]; exact h))]; exact e
theorem kb_sub {l : List Addr} {σ σ' : MH} (h : Sub σ σ') : KB l σ σ' := fun a o _ e => h a o e
/-- what is fresh need not be named -/
theorem KB.fresh {l : List Addr} {x : Addr} {σ σ' : MH} (h : KB (x :: l) σ σ') (hx : σ x = none) : KB l σ σ' := fun a o n e => h a o (fun m => by
  rcases List.mem_cons.mp m with rfl | m
  · rw [hx] at e; cases e
  · exact n m) e
theorem ne_of_diff {σ : MH} {a b : Addr} {o o' : MO} (h : σ a = some o) (h' : σ b = some o') (hd : o ≠ o') : a ≠ b := fun e => by subst e; rw [h] at h'; cases h'; exact hd rfl
section
/-- the names' part of a state -/
structure SF (G : GAdr) (σ : MH) (tys : MV) (pre : List MV) (lv slots : Int) (names : List (Str × MV)) (order : List MV) : Prop where
  ss : σ G.ss = some (.inst (pk.ca 137) G.ssd)
  ssd : σ G.ssd = some (.ns [("types", tys), ("module", .str ""), ("stack", .ref G.stk), ("level", .int lv)])
  stk : σ G.stk = some (.list (pre ++ [.ref G.g]))
  g : σ G.g = some (.inst (pk.ca 136) G.gd)
  gd : σ G.gd = some (.ns (scpfs G lv slots))
  nm : σ G.nm = some (.sd names)
  od : σ G.od = some (.list order)
  n : G.stk ≠ G.od
noncomputable def GAdr.all (G : GAdr) : List Addr := [G.ss, G.ssd, G.stk, G.g, G.gd, G.nm, G.od]
variable {G : GAdr} {σ σ' : MH} {tys : MV} {pre : List MV} {lv slots : Int} {names : List (Str × MV)} {order : List MV}
theorem SF.kb (F : SF G σ tys pre lv slots names order) {l : List Addr} (h : KB l σ σ') (hn : ∀ a ∈ G.all, a ∉ l) : SF G σ' tys pre lv slots names order := by
  have m : ∀ {a}, a ∈ G.all → a ∉ l := fun {a} h => hn a h
  exact ⟨h _ _ (m (.head _)) F.ss, h _ _ (m (.tail _ (.head _))) F.ssd, h _ _ (m (.tail _ (.tail _ (.head _)))) F.stk, h _ _ (m (.tail _ (.tail _ (.tail _ (.head _))))) F.g,
    h _ _ (m (.tail _ (.tail _ (.tail _ (.tail _ (.head _)))))) F.gd, h _ _ (m (.tail _ (.tail _ (.tail _ (.tail _ (.tail _ (.head _))))))) F.nm, h _ _ (m (.tail _ (.tail _ (.tail _ (.tail _ (.tail _ (.tail _ (.head _)))))))) F.od, F.n⟩
theorem SF.ne (F : SF G σ tys pre lv slots names order) {x : Addr} (h : σ x = none) : ∀ a ∈ G.all, a ≠ x := by
  intro a ha e
  subst e
  unfold GAdr.all at ha
  simp only [List.mem_cons, List.not_mem_nil, or_false] at ha
  have f := F.ss; have f1 := F.ssd; have f2 := F.stk; have f3 := F.g; have f4 := F.gd; have f5 := F.nm; have f6 := F.od
  rcases ha with rfl | rfl | rfl | rfl | rfl | rfl | rfl <;> simp_all
theorem SF.fresh (F : SF G σ tys pre lv slots names order) {x : Addr} (h : σ x = none) (k : KB [x] σ σ') : SF G σ' tys pre lv slots names order :=
  F.kb k fun a ha m => F.ne h a ha (List.mem_singleton.mp m)
/-- the parts that an insertion turns, taken out -/
noncomputable def SF.base (G : GAdr) (σ : MH) : MH := fun a => if a = G.nm ∨ a = G.od ∨ a = G.gd then none else σ a
theorem SF.split (F : SF G σ tys pre lv slots names order) : SCOK G (SF.base G σ) tys pre lv ∧ SCS G (SF.base G σ) names order lv slots = σ := by
  have d1 : G.nm ≠ G.od := ne_of_diff F.nm F.od (by intro h; cases h)
  have d2 : G.nm ≠ G.gd := ne_of_diff F.nm F.gd (by intro h; cases h)
  have d3 : G.od ≠ G.gd := ne_of_diff F.od F.gd (by intro h; cases h)
  have ne : ∀ {a : Addr} {o : MO}, σ a = some o → a ≠ G.nm → a ≠ G.od → a ≠ G.gd → SF.base G σ a = some o := fun {a o} h n1 n2 n3 => by
    unfold SF.base
    rw [if_neg (by simp [n1, n2, n3])]; exact h
  refine ⟨⟨ne F.ss (ne_of_diff F.ss F.nm (by intro h; cases h)) (ne_of_diff F.ss F.od (by intro h; cases h)) (ne_of_diff F.ss F.gd (by intro h; cases h)),
    ne F.ssd (ne_of_diff F.ssd F.nm (by intro h; cases h)) (ne_of_diff F.ssd F.od (by intro h; cases h)) (ne_of_diff F.ssd F.gd (by intro h; unfold scpfs at h; simp at h)),
    ne F.stk (ne_of_diff F.stk F.nm (by intro h; cases h)) F.n (ne_of_diff F.stk F.gd (by intro h; cases h)),
    ne F.g (ne_of_diff F.g F.nm (by intro h; cases h)) (ne_of_diff F.g F.od (by intro h; cases h)) (ne_of_diff F.g F.gd (by intro h; cases h)),
    by simp [SF.base], by simp [SF.base], by simp [SF.base], d1, d2, d3⟩, ?_⟩
  · funext a
    unfold SCS
    by_cases h1 : a = G.gd
    · subst h1; rw [updH_same]; exact F.gd.symm
    · rw [updH_ne h1]
      by_cases h2 : a = G.od
      · subst h2; rw [updH_same]; exact F.od.symm
      · rw [updH_ne h2]
        by_cases h3 : a = G.nm
        · subst h3; rw [updH_same]; exact F.nm.symm
        · rw [updH_ne h3]; unfold SF.base; rw [if_neg (by simp [h1, h2, h3])]
end
section
variable {k : Nat}
/-- a store into an object of a state of which some facts are known -/
theorem uw_set {C : Addr} {names : List Str} {meths : List (Str × Addr)} (D : Cdef c C names meths) {σ : MH} {x dx : Addr} {name : Str} {fs fs' : List (Str × MV)} {v : MV} {R : MH → Prop} (h1 : σ x = some (.inst C dx)) (h2 : σ dx = some (.ns fs)) (hn : name ∈ names) (hl : Nat.ble fs.length 900 = true) (he : putF name v fs = fs')
    (q : ∀ σ', σ' dx = some (.ns fs') → KB [dx] σ σ' → R σ') : UW c k (setAttrW name) [.ref x, v] σ R := by
  subst he
  exact uw_setattr D h1 h2 hn (Nat.le_of_ble_eq_true hl) (q _ (updH_same ..) (kb_upd (.head _)))
theorem scopes_f {σ : MH} {Q : MV → MH → Prop} {tys : MV} (q : ∀ (G : GAdr) (σ' : MH), SF G σ' tys [] (-1) 0 [] [] → Sub σ σ' → (∀ a ∈ G.all, σ a = none) → Q (.ref G.ss) σ') : CW c (k + 4) (.ref (pk.ca 137)) [tys, .str ""] σ Q := by
  refine cw_class pk.cScopes.d (.head _) fun x dx hx hd hne => ?_
  show FW c (k + 3) _ _ (INI σ (pk.ca 137) x dx []) _
  refine fn_intro pk.mScopes_init.d rfl ?_
  refine sw_cons ?_
  trivial
  refine uw_ini pk.cScopes.d hne (.head _) (Nat.zero_le _) rfl ?_
  trivial
  refine uw_ini pk.cScopes.d hne (.tail _ (.head _)) (Nat.le_of_ble_eq_true rfl) (by decreasing_trivial) ?_
  refine beh_next (sw_cons ?_)
  trivial
  refine ew_list ?_
  trivial
  refine ew_callG pk.cScope.g pk.cScope.k ?_
  trivial
  refine scope_w fun g gd nm od h1 h2 h3 h4 n1 n2 n3 n4 n5 n6 => ?_
  trivial
  intro stk hst
  have fr : ∀ {F : List (Str × MV)} {a : Addr}, INI σ (pk.ca 137) x dx F a = none → a ≠ x ∧ a ≠ dx ∧ σ a = none := fun {F a} h => by
    have e1 : a ≠ x := fun e => by subst e; rw [ini_inst] at h; cases h
    have e2 : a ≠ dx := fun e => by subst e; rw [ini_ns hne] at h; cases h
    refine ⟨e1, e2, ?_⟩
    unfold INI at h; rwa [updH_ne e1, updH_ne e2] at h
  obtain ⟨g1, g2, g3⟩ := fr h1
  obtain ⟨gd1, gd2, gd3⟩ := fr h2
  obtain ⟨nm1, nm2, nm3⟩ := fr h3
  obtain ⟨od1, od2, od3⟩ := fr h4
  have s1 : stk ≠ g := fun e => by subst e; rw [ini_inst] at hst; cases hst
  have s2 : stk ≠ gd := fun e => by subst e; rw [ini_ns n1] at hst; cases hst
  have hst2 : updH (updH (INI σ (pk.ca 137) x dx [("types", tys), ("module", .str "")]) nm (.sd [])) od (.list []) stk = none := by
    unfold INI at hst ⊢; rwa [updH_ne s1, updH_ne s2] at hst
  have s3 : stk ≠ od := fun e => by subst e; rw [updH_same] at hst2; cases hst2
  rw [updH_ne s3] at hst2
  have s4 : stk ≠ nm := fun e => by subst e; rw [updH_same] at hst2; cases hst2
  rw [updH_ne s4] at hst2
  obtain ⟨s5, s6, s7⟩ := fr hst2
  have tx : ∀ {o1 o2 o3 : MO} {gs : List (Str × MV)} {F : List (Str × MV)}, updH (INI (updH (updH (INI σ (pk.ca 137) x dx F) nm o1) od o2) (pk.ca 136) g gd gs) stk o3 x = some (.inst (pk.ca 137) dx) := by
    intro o1 o2 o3 gs F; unfold INI; simp [updH, Ne.symm s5, Ne.symm g1, Ne.symm gd1, Ne.symm nm1, Ne.symm od1]
  have td : ∀ {o1 o2 o3 : MO} {gs : List (Str × MV)} {F : List (Str × MV)}, updH (INI (updH (updH (INI σ (pk.ca 137) x dx F) nm o1) od o2) (pk.ca 136) g gd gs) stk o3 dx = some (.ns F) := by
    intro o1 o2 o3 gs F; unfold INI; simp [updH, Ne.symm s6, Ne.symm g2, Ne.symm gd2, Ne.symm nm2, Ne.symm od2, Ne.symm hne]
  trivial
  refine uw_set pk.cScopes.d tx td (List.mem_of_getElem? (i := 2) rfl) rfl (fs := [("types", tys), ("module", .str "")]) (fs' := [("types", tys), ("module", .str ""), ("stack", .ref stk)]) (by decreasing_trivial) fun σ1 f1 k1 => ?_
  trivial
  refine uw_set pk.cScopes.d (k1 _ _ (by simp [hne]) tx) f1 (List.mem_of_getElem? (i := 3) rfl) rfl (fs := [("types", tys), ("module", .str ""), ("stack", .ref stk)]) (fs' := [("types", tys), ("module", .str ""), ("stack", .ref stk), ("level", .int (-1))]) (by decreasing_trivial) fun σ2 f2 k2 => ?_
  trivial
  have kk := k1.trans k2
  refine q ⟨x, dx, stk, g, gd, nm, od⟩ σ2 ⟨kk _ _ (by simp [hne]) tx, f2, kk _ _ (by simp [s6]) (updH_same ..), kk _ _ (by simp [g2]) ?_, kk _ _ (by simp [gd2]) ?_, kk _ _ (by simp [nm2]) ?_, kk _ _ (by simp [od2]) ?_, s3⟩ (fun a o e => ?_) ?_
  · unfold INI; simp [updH, Ne.symm s1]
  · unfold INI scpfs; simp [updH, Ne.symm s2, Ne.symm n1]
  · unfold INI; simp [updH, Ne.symm s4, n2, n3, Ne.symm n6]
  · unfold INI; simp [updH, Ne.symm s3, n4, n5]
  · have e1 := ne_of_fresh' hx e; have e2 := ne_of_fresh' hd e; have e3 := ne_of_fresh' g3 e; have e4 := ne_of_fresh' gd3 e; have e5 := ne_of_fresh' nm3 e; have e6 := ne_of_fresh' od3 e; have e7 := ne_of_fresh' s7 e
    refine kk _ _ (by simp [e2]) ?_
    unfold INI; simp [updH, e1, e2, e3, e4, e5, e6, e7, e]
  · intro a ha
    unfold GAdr.all at ha
    simp only [List.mem_cons, List.not_mem_nil, or_false] at ha
    rcases ha with rfl | rfl | rfl | rfl | rfl | rfl | rfl <;> assumption
end
section
variable {k : Nat} {G : GAdr} {σ : MH} {tys : MV} {pre : List MV} {lv slots : Int} {names : List (Str × MV)} {order : List MV} {Q : MV → MH → Prop}
noncomputable abbrev GAdr.mut (G : GAdr) : List Addr := [G.nm, G.od, G.gd]
theorem SCOK.sf {base : MH} (ok : SCOK G base tys pre lv) (hn : G.stk ≠ G.od) : SF G (SCS G base names order lv slots) tys pre lv slots names order :=
  ⟨scs_at ok ok.ss, scs_at ok ok.ssd, scs_at ok ok.stk, scs_at ok ok.g, scs_gd, scs_nm ok, scs_od ok, hn⟩
/-- an insertion, over a state of which the names' part is known -/
theorem insert_f (F : SF G σ tys pre lv slots names order) (hlv : lv = -1 ∨ lv = 0) {x kind : Str} {t : MV} (hx : getF x names = none) (hn : names.length ≤ 9000) (ho : order.length ≤ 9000) (hpar : ¬ kind = "par")
    (q : ∀ σ' o dd, SF G σ' tys pre lv (if kind = "var" then slots + 1 else slots) (putF x (.ref o) names) (order ++ [.ref o]) → KB G.mut σ σ' → σ o = none → σ dd = none → σ' o = some (.inst (pk.ca 133) dd) → σ' dd = some (.ns (if kind = "var" then putF "slot" (.int slots) (obfs x kind t 0) else obfs x kind t 0)) → Q (.ref o) σ') :
    FW c (k + 3) (.ref (pk.ma 137 5)) [.ref G.ss, .str x, .str kind, t, .int 0] σ Q := by
  obtain ⟨ok, e⟩ := F.split
  have fresh : ∀ {a : Addr}, SF.base G σ a = none → (a ≠ G.nm ∧ a ≠ G.od ∧ a ≠ G.gd) → σ a = none := fun {a} h ⟨h1, h2, h3⟩ => by unfold SF.base at h; rwa [if_neg (by simp [h1, h2, h3])] at h
  rw [← e]
  refine insert_w ok hlv hx hn ho hpar fun o dd h1 h2 hne hm => ?_
  obtain ⟨a1, a2, a3⟩ := hm o (.head _)
  obtain ⟨b1, b2, b3⟩ := hm dd (.tail _ (.head _))
  have key : ∀ {fs : List (Str × MV)} {s2 : Int}, SF G (SCS G (INI (SF.base G σ) (pk.ca 133) o dd fs) (putF x (.ref o) names) (order ++ [.ref o]) lv s2) tys pre lv s2 (putF x (.ref o) names) (order ++ [.ref o]) ∧
      KB G.mut σ (SCS G (INI (SF.base G σ) (pk.ca 133) o dd fs) (putF x (.ref o) names) (order ++ [.ref o]) lv s2) ∧ SCS G (INI (SF.base G σ) (pk.ca 133) o dd fs) (putF x (.ref o) names) (order ++ [.ref o]) lv s2 o = some (.inst (pk.ca 133) dd) ∧
      SCS G (INI (SF.base G σ) (pk.ca 133) o dd fs) (putF x (.ref o) names) (order ++ [.ref o]) lv s2 dd = some (.ns fs) := by
    intro fs s2
    have ok2 : SCOK G (INI (SF.base G σ) (pk.ca 133) o dd fs) tys pre lv := (ok.new h2 b1 b2 b3).new (by rw [updH_ne hne]; exact h1) a1 a2 a3
    refine ⟨ok2.sf F.n, fun a v n ha => ?_, scs_at ok2 ini_inst, scs_at ok2 (ini_ns hne)⟩
    have hb : SF.base G σ a = some v := by
      unfold SF.base
      rw [if_neg]; · exact ha
      rintro (rfl | rfl | rfl)
      · exact n (.head _)
      · exact n (.tail _ (.head _))
      · exact n (.tail _ (.tail _ (.head _)))
    refine scs_at ok2 ?_
    unfold INI
    rw [updH_ne (ne_of_fresh' h1 hb), updH_ne (ne_of_fresh' h2 hb)]; exact hb
  by_cases hv : kind = "var"
  · rw [if_pos hv]
    obtain ⟨y1, y2, y3, y4⟩ := key (fs := putF "slot" (.int slots) (obfs x kind t 0)) (s2 := slots + 1)
    exact q _ o dd (by rw [if_pos hv]; exact y1) y2 (fresh h1 ⟨a1, a2, a3⟩) (fresh h2 ⟨b1, b2, b3⟩) y3 (by rw [if_pos hv]; exact y4)
  · rw [if_neg hv]
    obtain ⟨y1, y2, y3, y4⟩ := key (fs := obfs x kind t 0) (s2 := slots)
    exact q _ o dd (by rw [if_neg hv]; exact y1) y2 (fresh h1 ⟨a1, a2, a3⟩) (fresh h2 ⟨b1, b2, b3⟩) y3 (by rw [if_neg hv]; exact y4)
/-- a scope is opened -/
theorem open_f (F : SF G σ tys pre (-1) slots names order) (hp : pre.length ≤ 100)
    (q : ∀ G' σ', G'.ss = G.ss → G'.stk = G.stk → SF G' σ' tys (pre ++ [.ref G.g]) 0 0 [] [] → KB [G.ssd, G.stk] σ σ' → σ G'.g = none → σ G'.gd = none → σ G'.nm = none → σ G'.od = none → Q (.ref G'.g) σ') :
    FW c (k + 3) (.ref (pk.ma 137 1)) [.ref G.ss, .str ""] σ Q := by
  refine fn_intro pk.mScopes_open.d rfl ?_
  refine sw_cons ?_
  trivial
  refine ew_callG pk.cScope.g pk.cScope.k ?_
  trivial
  refine ⟨_, ga_inst pk.cScopes.d F.ss F.ssd (List.mem_of_getElem? (i := 3) rfl) (r := .int (-1)) (by decreasing_trivial), ?_⟩
  trivial
  refine scope_w fun g gd nm od h1 h2 h3 h4 n1 n2 n3 n4 n5 n6 => ?_
  have kb0 : ∀ {a : Addr} {o : MO}, σ a = some o → INI (updH (updH σ nm (.sd [])) od (.list [])) (pk.ca 136) g gd [("level", .int (-1 + 1)), ("label", .str ""), ("names", .ref nm), ("order", .ref od), ("slots", .int 0)] a = some o := fun {a o} h => by
    have e3 := ne_of_fresh' h1 h; have e4 := ne_of_fresh' h2 h; have e5 := ne_of_fresh' h3 h; have e6 := ne_of_fresh' h4 h
    unfold INI; simp [updH, e3, e4, e5, e6, h]
  have i0 : INI (updH (updH σ nm (.sd [])) od (.list [])) (pk.ca 136) g gd [("level", .int (-1 + 1)), ("label", .str ""), ("names", .ref nm), ("order", .ref od), ("slots", .int 0)] g = some (.inst (pk.ca 136) gd) := ini_inst
  have i1 : INI (updH (updH σ nm (.sd [])) od (.list [])) (pk.ca 136) g gd [("level", .int (-1 + 1)), ("label", .str ""), ("names", .ref nm), ("order", .ref od), ("slots", .int 0)] gd = some (.ns [("level", .int (-1 + 1)), ("label", .str ""), ("names", .ref nm), ("order", .ref od), ("slots", .int 0)]) := ini_ns n1
  have i2 : INI (updH (updH σ nm (.sd [])) od (.list [])) (pk.ca 136) g gd [("level", .int (-1 + 1)), ("label", .str ""), ("names", .ref nm), ("order", .ref od), ("slots", .int 0)] nm = some (.sd []) := by unfold INI; simp [updH, n2, n3, Ne.symm n6]
  have i3 : INI (updH (updH σ nm (.sd [])) od (.list [])) (pk.ca 136) g gd [("level", .int (-1 + 1)), ("label", .str ""), ("names", .ref nm), ("order", .ref od), ("slots", .int 0)] od = some (.list []) := by unfold INI; simp [updH, n4, n5]
  generalize INI (updH (updH σ nm (.sd [])) od (.list [])) (pk.ca 136) g gd [("level", .int (-1 + 1)), ("label", .str ""), ("names", .ref nm), ("order", .ref od), ("slots", .int 0)] = τ at kb0 i0 i1 i2 i3 ⊢
  have gs : g ≠ G.stk := Ne.symm (ne_of_fresh' h1 F.stk)
  have gds : gd ≠ G.stk := Ne.symm (ne_of_fresh' h2 F.stk)
  have nms : nm ≠ G.stk := Ne.symm (ne_of_fresh' h3 F.stk)
  have ods : od ≠ G.stk := Ne.symm (ne_of_fresh' h4 F.stk)
  have gs' : g ≠ G.ssd := Ne.symm (ne_of_fresh' h1 F.ssd)
  have gds' : gd ≠ G.ssd := Ne.symm (ne_of_fresh' h2 F.ssd)
  have nms' : nm ≠ G.ssd := Ne.symm (ne_of_fresh' h3 F.ssd)
  have ods' : od ≠ G.ssd := Ne.symm (ne_of_fresh' h4 F.ssd)
  have sks : G.stk ≠ G.ssd := ne_of_diff F.stk F.ssd (by intro h; cases h)
  have sss : G.ss ≠ G.ssd := ne_of_diff F.ss F.ssd (by intro h; cases h)
  have ssk : G.ss ≠ G.stk := ne_of_diff F.ss F.stk (by intro h; cases h)
  refine beh_next (sw_cons ?_)
  trivial
  refine ⟨_, ga_inst pk.cScopes.d (kb0 F.ss) (kb0 F.ssd) (List.mem_of_getElem? (i := 2) rfl) (r := .ref G.stk) (by decreasing_trivial), ?_⟩
  trivial
  refine ⟨_, mi_append (kb0 F.stk), keeps_bi, ?_⟩
  trivial
  refine cw_append (kb0 F.stk) (by simp; lia) ?_
  refine beh_next (sw_cons ?_)
  trivial
  refine ⟨_, ga_inst pk.cScope.d (by rw [updH_ne gs]; exact i0) (by rw [updH_ne gds]; exact i1) (.head _) (r := .int (-1 + 1)) (by decreasing_trivial), ?_⟩
  trivial
  refine uw_set pk.cScopes.d (by rw [updH_ne ssk]; exact kb0 F.ss) (by rw [updH_ne (Ne.symm sks)]; exact kb0 F.ssd) (List.mem_of_getElem? (i := 3) rfl) rfl (fs := [("types", tys), ("module", .str ""), ("stack", .ref G.stk), ("level", .int (-1))]) (fs' := [("types", tys), ("module", .str ""), ("stack", .ref G.stk), ("level", .int 0)]) (by decreasing_trivial) fun σ1 f1 k1 => ?_
  trivial
  have up : ∀ {a : Addr} {o : MO}, a ≠ G.ssd → a ≠ G.stk → τ a = some o → σ1 a = some o := fun {a o} e1 e2 h => k1 _ _ (by simp [e1]) (by rw [updH_ne e2]; exact h)
  refine q ⟨G.ss, G.ssd, G.stk, g, gd, nm, od⟩ σ1 rfl rfl ⟨up sss ssk (kb0 F.ss), f1, k1 _ _ (by simp [sks]) (updH_same ..), up gs' gs i0, up gds' gds i1, up nms' nms i2, up ods' ods i3, Ne.symm ods⟩ (fun a o n h => ?_) h1 h2 h3 h4
  simp only [List.mem_cons, List.not_mem_nil, or_false, not_or] at n
  exact up n.1 n.2 (kb0 h)
end
theorem getF_none {x : Str} : ∀ {l : List (Str × MV)}, memS x (l.map (·.1)) = false → getF x l = none
  | [], _ => rfl
  | (y, v) :: r, h => by
    have h' := sNmem h
    rw [List.map_cons, List.mem_cons, not_or] at h'
    unfold getF
    rw [if_neg h'.1]
    exact getF_none (by
      cases e : memS x (r.map (·.1)) with
      | false => rfl
      | true => exact absurd (sMem e) h'.2)
theorem putF_keys {x : Str} {v : MV} : ∀ {l : List (Str × MV)}, getF x l = none → (putF x v l).map (·.1) = l.map (·.1) ++ [x]
  | [], _ => rfl
  | (y, w) :: r, h => by
    unfold getF at h
    by_cases e : x = y
    · rw [if_pos e] at h; cases h
    · rw [if_neg e] at h
      unfold putF
      rw [if_neg e, List.map_cons, putF_keys h]; rfl
section
variable {k : Nat} {G : GAdr} {σ : MH} {tys : MV} {pre : List MV} {lv slots : Int} {names : List (Str × MV)} {order : List MV} {Q : MV → MH → Prop}
structure SK (G : GAdr) (σ : MH) (tys : MV) (pre : List MV) (lv slots : Int) (ks : List Str) : Prop where
  ex : ∃ names order, SF G σ tys pre lv slots names order ∧ names.map (·.1) = ks ∧ order.length = ks.length
theorem SK.fresh {ks : List Str} {σ' : MH} (F : SK G σ tys pre lv slots ks) {x : Addr} (h : σ x = none) (k : KB [x] σ σ') : SK G σ' tys pre lv slots ks :=
  let ⟨n, o, f, a, b⟩ := F.ex; ⟨n, o, f.fresh h k, a, b⟩
theorem SK.at {ks : List Str} (F : SK G σ tys pre lv slots ks) : σ G.ss = some (.inst (pk.ca 137) G.ssd) ∧ σ G.ssd = some (.ns [("types", tys), ("module", .str ""), ("stack", .ref G.stk), ("level", .int lv)]) :=
  let ⟨_, _, f, _⟩ := F.ex; ⟨f.ss, f.ssd⟩
/-- an insertion of a name of another kind than var -/
theorem insert_k {ks : List Str} (F : SK G σ tys pre lv slots ks) (hlv : lv = -1 ∨ lv = 0) {x kind : Str} {t : MV} (hx : memS x ks = false) (hn : ks.length ≤ 9000) (hk : Fast.sEq kind "var" = false) (hpar : Fast.sEq kind "par" = false)
    (q : ∀ σ' o dd, SK G σ' tys pre lv slots (ks ++ [x]) → KB G.mut σ σ' → σ dd = none → σ' o = some (.inst (pk.ca 133) dd) → σ' dd = some (.ns (obfs x kind t 0)) → Q (.ref o) σ') :
    FW c (k + 3) (.ref (pk.ma 137 5)) [.ref G.ss, .str x, .str kind, t, .int 0] σ Q := by
  obtain ⟨names, order, f, a, b⟩ := F.ex
  have hx' : getF x names = none := getF_none (by rw [a]; exact hx)
  have hlen : names.length = ks.length := by rw [← a, List.length_map]
  refine insert_f f hlv hx' (by lia) (by lia) (sNe hpar) fun σ' o dd f' kb h1 h2 h3 h4 => ?_
  rw [if_neg (sNe hk)] at f' h4
  exact q σ' o dd ⟨_, _, f', by rw [putF_keys hx', a], by simp [b]⟩ kb h2 h3 h4
/-- a value is given to what was inserted -/
theorem setval_k {ks : List Str} {σ1 : MH} (F : SK G σ1 tys pre lv slots ks) (kb : KB G.mut σ σ1) {o dd : Addr} {x kind : Str} {t v : MV} {R : MH → Prop} (h : σ dd = none) (hs : SK G σ tys pre lv slots (ks.dropLast)) (h1 : σ1 o = some (.inst (pk.ca 133) dd)) (h2 : σ1 dd = some (.ns (obfs x kind t 0)))
    (q : ∀ σ', SK G σ' tys pre lv slots ks → KB G.mut σ σ' → R σ') : UW c k (setAttrW "value") [.ref o, v] σ1 R := by
  refine uw_setattr pk.cObj.d h1 h2 (List.mem_of_getElem? (i := 8) rfl) (Nat.le_of_ble_eq_true rfl) (q _ ?_ ?_)
  · obtain ⟨n, od, f, a, b⟩ := F.ex
    obtain ⟨n0, od0, f0, _⟩ := hs.ex
    exact ⟨n, od, f.kb (kb_upd (.head _)) fun y hy m => f0.ne h y hy (List.mem_singleton.mp m), a, b⟩
  · refine KB.fresh (x := dd) ?_ h
    exact (kb.mono fun a ha => .tail _ ha).trans (kb_upd (.head _))
noncomputable abbrev fillB : List Stmt := fBody (topAt 141)
noncomputable abbrev fillFB : List Stmt := foB (stA fillB 8)
noncomputable abbrev fillML (G : GAdr) (kn : Addr) : Loc := [("scopes", .ref G.ss), ("types", tysV kn)]
theorem fill_loop {kn it : Addr} {σ0 : MH} {pos : Pos} {R : Fl → Loc → MH → Prop} {ms : List Str} (hlv : lv = -1 ∨ lv = 0) (hit : σ0 it = none)
    (q : ∀ ml σ' ks, SK G σ' (tysV kn) pre lv slots ks → KB G.mut σ0 σ' → R .next ml σ') :
    ∀ (l : List Str) (i : Nat) (σ : MH) (ks : List Str), (ms.drop i = l) → (∀ a ∈ G.all, a ≠ it) → SK G σ (tysV kn) pre lv slots ks → σ it = some (.titer (.tup (ms.map .str)) i) → KB (it :: G.mut) σ0 σ → (ks ++ l).Nodup → (ks ++ l).length ≤ 9000 →
      FOR c (k + 3) (fScope (topAt 141)) (.Name "name" pos) it fillFB (fillML G kn) σ R := by
  intro l
  induction l with
  | nil =>
    intro i σ ks hd hne F hi kb hnd hlen
    refine for_end (nx_tupend hi (by simp; exact List.drop_eq_nil_iff.mp hd)) (q _ _ ks ?_ ?_)
    · obtain ⟨n, od, f, a, b⟩ := F.ex
      refine ⟨n, od, f.kb (l := [it]) (fun a o n e => ?_) (fun a ha m => hne a ha (List.mem_singleton.mp m)), a, b⟩
      rw [delH_ne (fun e => n (by rw [e]; exact .head _))]; exact e
    · refine KB.fresh (x := it) (fun a o n e => ?_) hit
      rw [delH_ne (fun e => n (by rw [e]; exact .head _))]; exact kb a o n e
  | cons x l ih =>
    intro i σ ks hd hne F hi kb hnd hlen
    have hr : (ms.map MV.str)[i]? = some (.str x) := by
      rw [List.getElem?_map]
      have := congrArg (fun l => l[0]?) hd
      simp at this
      rw [this]; rfl
    have hnext : ms.drop (i + 1) = l := by rw [← List.drop_drop, hd]; rfl
    have hx : memS x ks = false := by
      cases e : memS x ks with
      | false => rfl
      | true => exact absurd (List.nodup_append.mp hnd).2.2 fun h => h x (sMem e) x (.head _) rfl
    refine for_item (nx_tup hi hr) (lg_name rfl) (aw_name ?_)
    have F1 : SK G (updH σ it (.titer (.tup (ms.map .str)) (i + 1))) (tysV kn) pre lv slots ks := by
      obtain ⟨n, od, f, a, b⟩ := F.ex
      exact ⟨n, od, f.kb (kb_upd (l := [it]) (.head _)) fun a ha m => hne a ha (List.mem_singleton.mp m), a, b⟩
    have kb1 : KB (it :: G.mut) σ0 (updH σ it (.titer (.tup (ms.map .str)) (i + 1))) := kb.trans (kb_upd (.head _))
    have hi1 : updH σ it (.titer (.tup (ms.map .str)) (i + 1)) it = some (.titer (.tup (ms.map .str)) (i + 1)) := updH_same ..
    generalize updH σ it (.titer (.tup (ms.map .str)) (i + 1)) = σ1 at F1 kb1 hi1 ⊢
    refine sw_cons ?_
    trivial
    refine ⟨_, mi_inst pk.cScopes.d F1.at.1 F1.at.2 (.tail _ (.tail _ (.tail _ (.head _)))) (by decreasing_trivial), keeps_ref (pk.cScopes.d.meth _ _ (.tail _ (.tail _ (.tail _ (.head _))))).2.2, ?_⟩
    trivial
    refine FW.cw (insert_k F1 hlv hx (by simp at hlen; lia) (by kernel_rfl!) (by kernel_rfl!) fun σ2 o dd F2 kb2 h2 h3 h4 => ?_)
    trivial
    refine setval_k F2 kb2 h2 (by rw [List.dropLast_concat]; exact F1) h3 h4 fun σ3 F3 kb3 => ?_
    trivial
    refine FOR.loco (l := fillML G kn) ?_ (ih (i + 1) σ3 (ks ++ [x]) hnext hne F3 ?_ ?_ ?_ ?_)
    · repeat (first | exact lsub_nil | refine lsub_cons (by decreasing_trivial) ?_)
    · refine kb3 _ _ (fun m => ?_) hi1
      have : it ∈ G.all := by
        simp only [GAdr.mut, List.mem_cons, List.not_mem_nil, or_false] at m
        unfold GAdr.all
        simp only [List.mem_cons, List.not_mem_nil, or_false]
        rcases m with m | m | m <;> simp [m]
      exact hne it this rfl
    · exact kb1.trans (kb3.mono fun a ha => .tail _ ha)
    · simpa using hnd
    · simpa using hlen
end
noncomputable def stdL : List Str := ["ABS", "ODD", "LEN", "LSL", "ASR", "ROR", "ORD", "CHR", "INC", "DEC", "INCL", "EXCL", "NEW", "ASSERT"]
section
variable {k : Nat} {G : GAdr} {σ : MH} {Q : MV → MH → Prop}
theorem stdf_w (q : Q (.tup [.str "ABS", .str "ODD", .str "LEN", .str "LSL", .str "ASR", .str "ROR", .str "ORD", .str "CHR"]) σ) : FW c (k + 1) (.ref (pk.fa 139)) [] σ Q := by
  refine fn_intro pk.fstdfunctions.d rfl ?_
  refine sw_cons ?_
  trivial
  exact q
theorem stdp_w (q : Q (.tup [.str "INC", .str "DEC", .str "INCL", .str "EXCL", .str "NEW", .str "ASSERT"]) σ) : FW c (k + 1) (.ref (pk.fa 140)) [] σ Q := by
  refine fn_intro pk.fstdprocedures.d rfl ?_
  refine sw_cons ?_
  trivial
  exact q
theorem fill_w {kn : Addr} (F0 : SK G σ (tysV kn) [] (-1) 0 []) (q : ∀ σ' ks, SK G σ' (tysV kn) [] (-1) 0 ks → KB G.mut σ σ' → Q .none σ') : FW c (k + 4) (.ref (pk.fa 141)) [.ref G.ss] σ Q := by
  refine fn_intro pk.ffill.d rfl ?_
  refine sw_cons ?_
  trivial
  refine ⟨_, ga_inst pk.cScopes.d F0.at.1 F0.at.2 (.head _) (r := tysV kn) (by decreasing_trivial), ?_⟩
  trivial
  refine ⟨_, mi_inst pk.cScopes.d F0.at.1 F0.at.2 (.tail _ (.tail _ (.tail _ (.head _)))) (by decreasing_trivial), keeps_ref (pk.cScopes.d.meth _ _ (.tail _ (.tail _ (.tail _ (.head _))))).2.2, ?_⟩
  trivial
  refine FW.cw ((insert_k (k := k) F0 (.inl rfl) (by kernel_rfl!) (by simp) (by kernel_rfl!) (by kernel_rfl!) fun σ1 o dd F1 kb1 _ _ _ => ?_).le (by lia))
  trivial
  refine ⟨_, mi_inst pk.cScopes.d F1.at.1 F1.at.2 (.tail _ (.tail _ (.tail _ (.head _)))) (by decreasing_trivial), keeps_ref (pk.cScopes.d.meth _ _ (.tail _ (.tail _ (.tail _ (.head _))))).2.2, ?_⟩
  trivial
  refine FW.cw ((insert_k (k := k) F1 (.inl rfl) (by kernel_rfl!) (by simp) (by kernel_rfl!) (by kernel_rfl!) fun σ2 o dd F2 kb2 _ _ _ => ?_).le (by lia))
  trivial
  refine ⟨_, mi_inst pk.cScopes.d F2.at.1 F2.at.2 (.tail _ (.tail _ (.tail _ (.head _)))) (by decreasing_trivial), keeps_ref (pk.cScopes.d.meth _ _ (.tail _ (.tail _ (.tail _ (.head _))))).2.2, ?_⟩
  trivial
  refine FW.cw ((insert_k (k := k) F2 (.inl rfl) (by kernel_rfl!) (by simp) (by kernel_rfl!) (by kernel_rfl!) fun σ3 o dd F3 kb3 _ _ _ => ?_).le (by lia))
  trivial
  refine ⟨_, mi_inst pk.cScopes.d F3.at.1 F3.at.2 (.tail _ (.tail _ (.tail _ (.head _)))) (by decreasing_trivial), keeps_ref (pk.cScopes.d.meth _ _ (.tail _ (.tail _ (.tail _ (.head _))))).2.2, ?_⟩
  trivial
  refine FW.cw ((insert_k (k := k) F3 (.inl rfl) (by kernel_rfl!) (by simp) (by kernel_rfl!) (by kernel_rfl!) fun σ4 o dd F4 kb4 _ _ _ => ?_).le (by lia))
  trivial
  refine ⟨_, mi_inst pk.cScopes.d F4.at.1 F4.at.2 (.tail _ (.tail _ (.tail _ (.head _)))) (by decreasing_trivial), keeps_ref (pk.cScopes.d.meth _ _ (.tail _ (.tail _ (.tail _ (.head _))))).2.2, ?_⟩
  trivial
  refine FW.cw ((insert_k (k := k) F4 (.inl rfl) (by kernel_rfl!) (by simp) (by kernel_rfl!) (by kernel_rfl!) fun σ5 o dd F5 kb5 _ _ _ => ?_).le (by lia))
  trivial
  refine ⟨_, mi_inst pk.cScopes.d F5.at.1 F5.at.2 (.tail _ (.tail _ (.tail _ (.head _)))) (by decreasing_trivial), keeps_ref (pk.cScopes.d.meth _ _ (.tail _ (.tail _ (.tail _ (.head _))))).2.2, ?_⟩
  trivial
  refine FW.cw ((insert_k (k := k) F5 (.inl rfl) (by kernel_rfl!) (by simp) (by kernel_rfl!) (by kernel_rfl!) fun τ6 o6 d6 E6 kc6 g1 g2 g3 => ?_).le (by lia))
  trivial
  refine setval_k E6 kc6 g1 F5 g2 g3 fun σ6 F6 kb6 => ?_
  trivial
  refine ⟨_, mi_inst pk.cScopes.d F6.at.1 F6.at.2 (.tail _ (.tail _ (.tail _ (.head _)))) (by decreasing_trivial), keeps_ref (pk.cScopes.d.meth _ _ (.tail _ (.tail _ (.tail _ (.head _))))).2.2, ?_⟩
  trivial
  refine FW.cw ((insert_k (k := k) F6 (.inl rfl) (by kernel_rfl!) (by simp) (by kernel_rfl!) (by kernel_rfl!) fun τ7 o7 d7 E7 kc7 g1 g2 g3 => ?_).le (by lia))
  trivial
  refine setval_k E7 kc7 g1 F6 g2 g3 fun σ7 F7 kb7 => ?_
  trivial
  refine s_for ?_
  trivial
  refine ew_callG pk.fstdfunctions.g pk.fstdfunctions.k ?_
  trivial
  refine FW.cw ((stdf_w (k := 0) ?_).le (by lia))
  trivial
  refine ew_callG pk.fstdprocedures.g pk.fstdprocedures.k ?_
  trivial
  refine FW.cw ((stdp_w (k := 0) ?_).le (by lia))
  trivial
  refine ow_addtup (by simp) (by simp) (by simp) ?_
  show IT c (k + 3) (.tup (stdL.map .str)) σ7 _
  refine it_tup fun it hit => ?_
  have nit : ∀ a ∈ G.all, a ≠ it := by
    obtain ⟨n, od, f, _⟩ := F7.ex
    exact f.ne hit
  refine FOR.loco (l := fillML G kn) ?_ (fill_loop (σ0 := σ7) (ms := stdL) (.inl rfl) hit (fun ml σ' ks G1 G2 => ?_) stdL 0 _ _ rfl nit (F7.fresh hit (kb_upd (.head _))) (updH_same ..) (kb_upd (.head _)) ?_ (by simp [stdL]))
  · repeat (first | exact lsub_nil | refine lsub_cons (by decreasing_trivial) ?_)
  · refine beh_next (sw_nil ?_)
    trivial
    exact q σ' ks G1 (((((((kb1.trans kb2).trans kb3).trans kb4).trans kb5).trans kb6).trans kb7).trans G2)
  · decide +kernel
end
section
/-- what is known of the reading side, over any state -/
structure RDF (W : PAd) (src : Str) (σ : MH) (s : PSt) : Prop where
  scd : σ W.scd = some (.ns (scfs W src s.place))
  rdd : σ W.rdd = some (.ns (rdfs W s.tok))
  rows : σ W.rows = some (.list s.rows)
  places : σ W.places = some (.idt s.ps)
  sc : σ W.sc = some (.inst (pk.ca 130) W.scd)
  rd : σ W.rd = some (.inst (pk.ca 143) W.rdd)
  er : σ W.er = some (.inst (pk.ca 119) W.erd)
  erd : σ W.erd = some (.ns [("rows", .ref W.rows), ("places", .ref W.places)])
  len : src.length ≤ 1000000
noncomputable def PAd.eight (W : PAd) : List Addr := [W.scd, W.rdd, W.rows, W.places, W.sc, W.rd, W.er, W.erd]
theorem mem8 {a : Addr} {W : PAd} (h : a ∈ W.eight) : a = W.scd ∨ a = W.rdd ∨ a = W.rows ∨ a = W.places ∨ a = W.sc ∨ a = W.rd ∨ a = W.er ∨ a = W.erd := by
  unfold PAd.eight at h
  simpa only [List.mem_cons, List.not_mem_nil, or_false] using h
theorem RDF.kb {W : PAd} {src : Str} {σ σ' : MH} {s : PSt} (F : RDF W src σ s) {l : List Addr} (k : KB l σ σ') (hn : ∀ a ∈ W.eight, a ∉ l) : RDF W src σ' s :=
  ⟨k _ _ (hn _ (List.mem_of_getElem? (i := 0) rfl)) F.scd, k _ _ (hn _ (List.mem_of_getElem? (i := 1) rfl)) F.rdd, k _ _ (hn _ (List.mem_of_getElem? (i := 2) rfl)) F.rows, k _ _ (hn _ (List.mem_of_getElem? (i := 3) rfl)) F.places,
    k _ _ (hn _ (List.mem_of_getElem? (i := 4) rfl)) F.sc, k _ _ (hn _ (List.mem_of_getElem? (i := 5) rfl)) F.rd, k _ _ (hn _ (List.mem_of_getElem? (i := 6) rfl)) F.er, k _ _ (hn _ (List.mem_of_getElem? (i := 7) rfl)) F.erd, F.len⟩
theorem RDF.ne {W : PAd} {src : Str} {σ : MH} {s : PSt} (F : RDF W src σ s) {x : Addr} (h : σ x = none) : ∀ a ∈ W.eight, a ≠ x := by
  intro a ha e
  subst e
  have f1 := F.scd; have f2 := F.rdd; have f3 := F.rows; have f4 := F.places; have f5 := F.sc; have f6 := F.rd; have f7 := F.er; have f8 := F.erd
  rcases mem8 ha with rfl | rfl | rfl | rfl | rfl | rfl | rfl | rfl <;> simp_all
noncomputable def RDF.base (W : PAd) (σ : MH) : MH := fun a => if a = W.scd ∨ a = W.rdd ∨ a = W.rows ∨ a = W.places then none else σ a
theorem rdfs_len10 {W : PAd} {t : MV} : 10 ≤ (rdfs W t).length := by
  rcases rdfs_or (W := W) (t := t) with e | e
  · rw [e]; exact Nat.le_of_ble_eq_true rfl
  · rw [rdfs_tok e]; exact Nat.le_of_ble_eq_true rfl
theorem RDF.split {W : PAd} {src : Str} {σ : MH} {s : PSt} (F : RDF W src σ s) : POKs W src (RDF.base W σ) ∧ PS W src (RDF.base W σ) s = σ ∧ ∀ a o, σ a = some o → a ≠ W.scd → a ≠ W.rdd → a ≠ W.rows → a ≠ W.places → RDF.base W σ a = some o := by
  have hl := rdfs_len10 (W := W) (t := s.tok)
  have nsne : ∀ {l : List (Str × MV)}, l.length < 10 → MO.ns l ≠ MO.ns (rdfs W s.tok) := fun {l} h e => by injection e with e; rw [e] at h; lia
  have n12 : W.scd ≠ W.rdd := ne_of_diff F.scd F.rdd (nsne (by simp [scfs]))
  have n13 : W.scd ≠ W.rows := ne_of_diff F.scd F.rows (fun h => by cases h)
  have n14 : W.scd ≠ W.places := ne_of_diff F.scd F.places (fun h => by cases h)
  have n23 : W.rdd ≠ W.rows := ne_of_diff F.rdd F.rows (fun h => by cases h)
  have n24 : W.rdd ≠ W.places := ne_of_diff F.rdd F.places (fun h => by cases h)
  have n34 : W.rows ≠ W.places := ne_of_diff F.rows F.places (fun h => by cases h)
  have at_ : ∀ a o, σ a = some o → a ≠ W.scd → a ≠ W.rdd → a ≠ W.rows → a ≠ W.places → RDF.base W σ a = some o := fun a o h h1 h2 h3 h4 => by
    unfold RDF.base; rw [if_neg (by simp [h1, h2, h3, h4])]; exact h
  have inst : ∀ {a C d : Addr}, σ a = some (.inst C d) → RDF.base W σ a = some (.inst C d) := fun h =>
    at_ _ _ h (ne_of_diff h F.scd (fun h => by cases h)) (ne_of_diff h F.rdd (fun h => by cases h)) (ne_of_diff h F.rows (fun h => by cases h)) (ne_of_diff h F.places (fun h => by cases h))
  refine ⟨⟨by simp [RDF.base], by simp [RDF.base], by simp [RDF.base], by simp [RDF.base], n12, n13, n14, n23, n24, n34, inst F.sc, inst F.rd, inst F.er, ?_, F.len⟩, ?_, at_⟩
  · exact at_ _ _ F.erd (ne_of_diff F.erd F.scd (fun h => by injection h with h; have := congrArg List.length h; simp [scfs] at this)) (ne_of_diff F.erd F.rdd (nsne (by simp))) (ne_of_diff F.erd F.rows (fun h => by cases h)) (ne_of_diff F.erd F.places (fun h => by cases h))
  · funext a
    unfold PS
    by_cases h4 : a = W.places
    · subst h4; rw [updH_same]; exact F.places.symm
    · rw [updH_ne h4]
      by_cases h3 : a = W.rows
      · subst h3; rw [updH_same]; exact F.rows.symm
      · rw [updH_ne h3]
        by_cases h2 : a = W.rdd
        · subst h2; rw [updH_same]; exact F.rdd.symm
        · rw [updH_ne h2]
          by_cases h1 : a = W.scd
          · subst h1; rw [updH_same]; exact F.scd.symm
          · rw [updH_ne h1]; unfold RDF.base; rw [if_neg (by simp [h1, h2, h3, h4])]
theorem POKs.rdf {W : PAd} {src : Str} {base : MH} {s : PSt} (ok : POKs W src base) : RDF W src (PS W src base s) s :=
  ⟨ps_scd ok, ps_rdd ok, ps_rows ok, ps_places, ps_at ok ok.sc, ps_at ok ok.rd, ps_at ok ok.er, ps_at ok ok.erd, ok.len⟩
/-- the reader under way -/
structure RI (σ τ : MH) (x dx sc scd er : Addr) (src : Str) : Prop where
  x : τ x = some (.inst (pk.ca 143) dx)
  sc : τ sc = some (.inst (pk.ca 130) scd)
  scd : τ scd = some (.ns [("source", .str src), ("errors", .ref er), ("place", .int 0), ("words", .tup (kwL.map .str))])
  old : Sub σ τ
theorem RI.kb {σ τ τ' : MH} {x dx sc scd er : Addr} {src : Str} {l : List Addr} (h : RI σ τ x dx sc scd er src) (k : KB l τ τ') (h1 : x ∉ l) (h2 : sc ∉ l) (h3 : scd ∉ l) (ho : ∀ a ∈ l, σ a = none) : RI σ τ' x dx sc scd er src :=
  ⟨k _ _ h1 h.x, k _ _ h2 h.sc, k _ _ h3 h.scd, fun a o e => k _ _ (fun m => by rw [ho a m] at e; cases e) (h.old _ _ e)⟩
end
section
variable {k : Nat} 
theorem ps_kb {W : PAd} {src : Str} {base : MH} {s s' : PSt} (h1 : s'.rows = s.rows) (h2 : s'.ps = s.ps) : KB [W.scd, W.rdd] (PS W src base s) (PS W src base s') := fun a o n e => by
  simp only [List.mem_cons, List.not_mem_nil, or_false, not_or] at n
  unfold PS at e ⊢
  rw [h1, h2]
  by_cases h4 : a = W.places
  · subst h4; rw [updH_same] at e ⊢; exact e
  · rw [updH_ne h4] at e ⊢
    by_cases h3 : a = W.rows
    · subst h3; rw [updH_same] at e ⊢; exact e
    · rw [updH_ne h3, updH_ne n.2, updH_ne n.1] at e ⊢; exact e
theorem reader_w {σ : MH} {src : Str} {er erd rows places kn : Addr} {ts : List Tk} {Q : MV → MH → Prop} (he : σ er = some (.inst (pk.ca 119) erd)) (hed : σ erd = some (.ns [("rows", .ref rows), ("places", .ref places)])) (hr : σ rows = some (.list [])) (hpl : σ places = some (.idt []))
    (hlen : src.length ≤ 1000000) (ha : Ahead src 0 ts)
    (q : ∀ W σ' s G ks, W.er = er → W.kn = kn → W.ss = G.ss → RDF W src σ' s → Cur src s ts → Clean s → SK G σ' (tysV kn) [] (-1) 0 ks → Sub σ σ' → (∀ a ∈ W.eight, ∀ b ∈ G.all, a ≠ b) → (∀ b ∈ G.all, σ b = none) → Q (.ref W.rd) σ') :
    CW c (k + 9) (.ref (pk.ca 143)) [.str src, tysV kn, .ref er] σ Q := by
  refine cw_class pk.cReader.d (.head _) fun x dx hx hd hne => ?_
  have a1 : updH (updH σ dx (.ns [])) x (.inst (pk.ca 143) dx) x = some (.inst (pk.ca 143) dx) := updH_same ..
  have a2 : updH (updH σ dx (.ns [])) x (.inst (pk.ca 143) dx) dx = some (.ns []) := by rw [updH_ne (Ne.symm hne)]; exact updH_same ..
  have a3 : Sub σ (updH (updH σ dx (.ns [])) x (.inst (pk.ca 143) dx)) := fun a o e => by rw [updH_ne (ne_of_fresh' hx e), updH_ne (ne_of_fresh' hd e)]; exact e
  generalize updH (updH σ dx (.ns [])) x (.inst (pk.ca 143) dx) = τ0 at a1 a2 a3 ⊢
  refine fn_intro pk.mReader_init.d rfl ?_
  refine sw_cons ?_
  trivial
  refine ew_callG pk.cScanner.g pk.cScanner.k ?_
  trivial
  refine scanner_w fun sc scd h1 h2 h3 => ?_
  have b1 : INI τ0 (pk.ca 130) sc scd [("source", .str src), ("errors", .ref er), ("place", .int 0), ("words", .tup (kwL.map .str))] sc = some (.inst (pk.ca 130) scd) := ini_inst
  have b2 : INI τ0 (pk.ca 130) sc scd [("source", .str src), ("errors", .ref er), ("place", .int 0), ("words", .tup (kwL.map .str))] scd = some (.ns [("source", .str src), ("errors", .ref er), ("place", .int 0), ("words", .tup (kwL.map .str))]) := ini_ns h3
  have b3 : Sub τ0 (INI τ0 (pk.ca 130) sc scd [("source", .str src), ("errors", .ref er), ("place", .int 0), ("words", .tup (kwL.map .str))]) := fun a o e => by
    unfold INI; rw [updH_ne (ne_of_fresh' h1 e), updH_ne (ne_of_fresh' h2 e)]; exact e
  generalize INI τ0 (pk.ca 130) sc scd [("source", .str src), ("errors", .ref er), ("place", .int 0), ("words", .tup (kwL.map .str))] = τ1 at b1 b2 b3 ⊢
  have nsc : sc ≠ dx := Ne.symm (ne_of_fresh' h1 a2)
  have nscd : scd ≠ dx := Ne.symm (ne_of_fresh' h2 a2)
  have I1 : RI σ τ1 x dx sc scd er src := ⟨b3 _ _ a1, b1, b2, fun a o e => b3 _ _ (a3 _ _ e)⟩
  have step : ∀ {τ τ' : MH}, RI σ τ x dx sc scd er src → KB [dx] τ τ' → RI σ τ' x dx sc scd er src := fun h kb => h.kb kb (by simp [hne]) (by simp [nsc]) (by simp [nscd]) (by simp [hd])
  have d1 : τ1 dx = some (.ns []) := b3 _ _ a2
  trivial
  refine uw_set pk.cReader.d I1.x d1 (List.mem_of_getElem? (i := 0) rfl) rfl (fs := []) (fs' := [("scanner", .ref sc)]) (by decreasing_trivial) fun τ2 d2 e2 => ?_
  have I2 := step I1 e2
  trivial
  refine uw_set pk.cReader.d I2.x d2 (List.mem_of_getElem? (i := 1) rfl) rfl (fs := [("scanner", .ref sc)]) (fs' := [("scanner", .ref sc), ("types", tysV kn)]) (by decreasing_trivial) fun τ3 d3 e3 => ?_
  have I3 := step I2 e3
  trivial
  refine uw_set pk.cReader.d I3.x d3 (List.mem_of_getElem? (i := 2) rfl) rfl (fs := [("scanner", .ref sc), ("types", tysV kn)]) (fs' := [("scanner", .ref sc), ("types", tysV kn), ("errors", .ref er)]) (by decreasing_trivial) fun τ4 d4 e4 => ?_
  have I4 := step I3 e4
  trivial
  refine uw_set pk.cReader.d I4.x d4 (List.mem_of_getElem? (i := 3) rfl) rfl (fs := [("scanner", .ref sc), ("types", tysV kn), ("errors", .ref er)]) (fs' := [("scanner", .ref sc), ("types", tysV kn), ("errors", .ref er), ("importer", .none)]) (by decreasing_trivial) fun τ5 d5 e5 => ?_
  have I5 := step I4 e5
  trivial
  refine ew_callG pk.cScopes.g pk.cScopes.k ?_
  trivial
  refine OW.le (scopes_f (k := k) fun G τ6 F6 s6 fr => ?_) (by lia)
  have I6 : RI σ τ6 x dx sc scd er src := I5.kb (l := []) (kb_sub s6) (by simp) (by simp) (by simp) (by simp)
  have d6 := s6 _ _ d5
  have ndx : ∀ a ∈ G.all, a ≠ dx := fun a ha e => by have := fr a ha; rw [e, d5] at this; cases this
  have nx : ∀ a ∈ G.all, a ≠ x := fun a ha e => by have := fr a ha; rw [e, I5.x] at this; cases this
  have ns1 : ∀ a ∈ G.all, a ≠ sc := fun a ha e => by have := fr a ha; rw [e, I5.sc] at this; cases this
  have ns2 : ∀ a ∈ G.all, a ≠ scd := fun a ha e => by have := fr a ha; rw [e, I5.scd] at this; cases this
  have nol : ∀ a ∈ G.all, σ a = none := fun a ha => by
    cases e : σ a with
    | none => rfl
    | some o => have := I5.old _ _ e; rw [fr a ha] at this; cases this
  trivial
  refine uw_set pk.cReader.d I6.x d6 (List.mem_of_getElem? (i := 4) rfl) rfl (fs := [("scanner", .ref sc), ("types", tysV kn), ("errors", .ref er), ("importer", .none)]) (fs' := [("scanner", .ref sc), ("types", tysV kn), ("errors", .ref er), ("importer", .none), ("scopes", .ref G.ss)]) (by decreasing_trivial) fun τ7 d7 e7 => ?_
  have I7 := step I6 e7
  have F7 : SK G τ7 (tysV kn) [] (-1) 0 [] := ⟨[], [], F6.kb e7 (fun a ha m => ndx a ha (List.mem_singleton.mp m)), rfl, rfl⟩
  trivial
  refine ew_callG pk.ffill.g pk.ffill.k ?_
  trivial
  refine ⟨_, ga_inst pk.cReader.d I7.x d7 (List.mem_of_getElem? (i := 4) rfl) (r := .ref G.ss) (by decreasing_trivial), ?_⟩
  trivial
  refine FW.cw ((fill_w (k := k) F7 fun τ8 ks F8 e8 => ?_).le (by lia))
  have mm : ∀ a ∈ G.mut, a ∈ G.all := fun a ha => by
    simp only [GAdr.mut, List.mem_cons, List.not_mem_nil, or_false] at ha
    unfold GAdr.all
    simp only [List.mem_cons, List.not_mem_nil, or_false]
    rcases ha with rfl | rfl | rfl <;> simp
  have I8 := I7.kb e8 (fun m => nx _ (mm _ m) rfl) (fun m => ns1 _ (mm _ m) rfl) (fun m => ns2 _ (mm _ m) rfl) (fun a m => nol _ (mm _ m))
  have d8 := e8 _ _ (fun m => ndx _ (mm _ m) rfl) d7
  trivial
  refine uw_set pk.cReader.d I8.x d8 (List.mem_of_getElem? (i := 5) rfl) rfl (fs := [("scanner", .ref sc), ("types", tysV kn), ("errors", .ref er), ("importer", .none), ("scopes", .ref G.ss)]) (fs' := [("scanner", .ref sc), ("types", tysV kn), ("errors", .ref er), ("importer", .none), ("scopes", .ref G.ss), ("module", .str "")]) (by decreasing_trivial) fun τ9 d9 e9 => ?_
  have I9 := step I8 e9
  have F9 : SK G τ9 (tysV kn) [] (-1) 0 ks := by
    obtain ⟨n, o, f, a, b⟩ := F8.ex
    exact ⟨n, o, f.kb e9 (fun a ha m => ndx a ha (List.mem_singleton.mp m)), a, b⟩
  trivial
  refine ew_flist ?_
  trivial
  refine uw_set pk.cReader.d I9.x d9 (List.mem_of_getElem? (i := 6) rfl) rfl (fs := [("scanner", .ref sc), ("types", tysV kn), ("errors", .ref er), ("importer", .none), ("scopes", .ref G.ss), ("module", .str "")]) (fs' := [("scanner", .ref sc), ("types", tysV kn), ("errors", .ref er), ("importer", .none), ("scopes", .ref G.ss), ("module", .str ""), ("procs", .flist [])]) (by decreasing_trivial) fun τ10 d10 e10 => ?_
  have I10 := step I9 e10
  have F10 : SK G τ10 (tysV kn) [] (-1) 0 ks := by
    obtain ⟨n, o, f, a, b⟩ := F9.ex
    exact ⟨n, o, f.kb e10 (fun a ha m => ndx a ha (List.mem_singleton.mp m)), a, b⟩
  trivial
  refine ew_flist ?_
  trivial
  refine uw_set pk.cReader.d I10.x d10 (List.mem_of_getElem? (i := 7) rfl) rfl (fs := [("scanner", .ref sc), ("types", tysV kn), ("errors", .ref er), ("importer", .none), ("scopes", .ref G.ss), ("module", .str ""), ("procs", .flist [])]) (fs' := [("scanner", .ref sc), ("types", tysV kn), ("errors", .ref er), ("importer", .none), ("scopes", .ref G.ss), ("module", .str ""), ("procs", .flist []), ("records", .flist [])]) (by decreasing_trivial) fun τ11 d11 e11 => ?_
  have I11 := step I10 e11
  have F11 : SK G τ11 (tysV kn) [] (-1) 0 ks := by
    obtain ⟨n, o, f, a, b⟩ := F10.ex
    exact ⟨n, o, f.kb e11 (fun a ha m => ndx a ha (List.mem_singleton.mp m)), a, b⟩
  trivial
  refine ew_flist ?_
  trivial
  refine uw_set pk.cReader.d I11.x d11 (List.mem_of_getElem? (i := 8) rfl) rfl (fs := [("scanner", .ref sc), ("types", tysV kn), ("errors", .ref er), ("importer", .none), ("scopes", .ref G.ss), ("module", .str ""), ("procs", .flist []), ("records", .flist [])]) (fs' := [("scanner", .ref sc), ("types", tysV kn), ("errors", .ref er), ("importer", .none), ("scopes", .ref G.ss), ("module", .str ""), ("procs", .flist []), ("records", .flist []), ("forwards", .flist [])]) (by decreasing_trivial) fun τ12 d12 e12 => ?_
  have I12 := step I11 e12
  have F12 : SK G τ12 (tysV kn) [] (-1) 0 ks := by
    obtain ⟨n, o, f, a, b⟩ := F11.ex
    exact ⟨n, o, f.kb e12 (fun a ha m => ndx a ha (List.mem_singleton.mp m)), a, b⟩
  trivial
  refine uw_set pk.cReader.d I12.x d12 (List.mem_of_getElem? (i := 9) rfl) rfl (fs := [("scanner", .ref sc), ("types", tysV kn), ("errors", .ref er), ("importer", .none), ("scopes", .ref G.ss), ("module", .str ""), ("procs", .flist []), ("records", .flist []), ("forwards", .flist [])]) (fs' := [("scanner", .ref sc), ("types", tysV kn), ("errors", .ref er), ("importer", .none), ("scopes", .ref G.ss), ("module", .str ""), ("procs", .flist []), ("records", .flist []), ("forwards", .flist []), ("level", .int 0)]) (by decreasing_trivial) fun τ13 d13 e13 => ?_
  have I13 := step I12 e13
  have F13 : SK G τ13 (tysV kn) [] (-1) 0 ks := by
    obtain ⟨n, o, f, a, b⟩ := F12.ex
    exact ⟨n, o, f.kb e13 (fun a ha m => ndx a ha (List.mem_singleton.mp m)), a, b⟩
  trivial
  let W : PAd := ⟨x, dx, sc, scd, er, erd, rows, places, G.ss, G.ssd, G.stk, G.g, 0, 0, 0, kn, fun _ _ => 0, fun _ _ => 0⟩
  have R0 : RDF W src τ13 ⟨0, .none, [], []⟩ := ⟨I13.scd, d13, I13.old _ _ hr, I13.old _ _ hpl, I13.sc, I13.x, I13.old _ _ he, I13.old _ _ hed, hlen⟩
  obtain ⟨ok, eb, _⟩ := R0.split
  refine ⟨_, ga_inst pk.cReader.d I13.x d13 (.head _) (r := .ref sc) (by decreasing_trivial), ?_⟩
  trivial
  refine ⟨_, mi_inst pk.cScanner.d I13.sc I13.scd (.tail _ (.tail _ (.head _))) (by decreasing_trivial), keeps_ref (pk.cScanner.d.meth _ _ (.tail _ (.tail _ (.head _)))).2.2, ?_⟩
  trivial
  rw [← eb]
  refine FW.cw ((take_a (k := k) (W := W) ok ha fun p' ha' => ?_).le (by lia))
  trivial
  refine uw_token (W := W) ok isTok_tk ?_
  trivial
  have kbp : KB [W.scd, W.rdd] (PS W src (RDF.base W τ13) ⟨0, .none, [], []⟩) (PS W src (RDF.base W τ13) ⟨p', tkV (hk ts) (hv ts) (hp src ts), [], []⟩) := ps_kb rfl rfl
  refine q W _ ⟨p', tkV (hk ts) (hv ts) (hp src ts), [], []⟩ G ks rfl rfl rfl ok.rdf ⟨rfl, ha'⟩ ⟨rfl, rfl⟩ ?_ ?_ ?_ nol
  · obtain ⟨n, o, f, a, b⟩ := F13.ex
    rw [← eb] at f
    refine ⟨n, o, f.kb kbp (fun a ha m => ?_), a, b⟩
    simp only [List.mem_cons, List.not_mem_nil, or_false] at m
    rcases m with m | m
    · exact ns2 a ha m
    · exact ndx a ha m
  · intro a o e
    have e2 := I13.old _ _ e
    rw [← eb] at e2
    refine kbp _ _ (fun m => ?_) e2
    simp only [List.mem_cons, List.not_mem_nil, or_false] at m
    rcases m with m | m
    · rw [m] at e
      have := a3 _ _ e
      rw [h2] at this; cases this
    · rw [m] at e
      rw [hd] at e; cases e
  · intro a ha b hb e
    rcases mem8 ha with rfl | rfl | rfl | rfl | rfl | rfl | rfl | rfl
    · exact ns2 b hb e.symm
    · exact ndx b hb e.symm
    · exact ne_of_fresh' (nol b hb) hr e
    · exact ne_of_fresh' (nol b hb) hpl e
    · exact ns1 b hb e.symm
    · exact nx b hb e.symm
    · exact ne_of_fresh' (nol b hb) he e
    · exact ne_of_fresh' (nol b hb) hed e
end
section
variable {k : Nat} {G : GAdr}
/-- a name that was inserted: the name, its type, its object, the object's fields -/
structure VE (σ : MH) (e : Str × MV × Addr × Addr) : Prop where
  o : σ e.2.2.1 = some (.inst (pk.ca 133) e.2.2.2)
  d : ∃ j : Int, σ e.2.2.2 = some (.ns (putF "slot" (.int j) (obfs e.1 "var" e.2.1 0)))
structure VI (G : GAdr) (σ : MH) (tys : MV) (pre : List MV) (done : List (Str × MV × Addr × Addr)) : Prop where
  sf : ∃ slots order, SF G σ tys pre 0 slots (done.map fun e => (e.1, .ref e.2.2.1)) order ∧ order.length = done.length
  ve : ∀ e ∈ done, VE σ e
noncomputable abbrev lawB : List Stmt := fBody (topAt 154)
noncomputable abbrev lawFB : List Stmt := foB (stA lawB 8)
noncomputable abbrev lawML (W : PAd) (wd : Addr) (due : MV) : Loc := [("world", .ref wd), ("due", due), ("errors", .ref W.er), ("rd", .ref W.rd)]
theorem putF_app {x : Str} {v : MV} : ∀ {l : List (Str × MV)}, getF x l = none → putF x v l = l ++ [(x, v)]
  | [], _ => rfl
  | (y, w) :: r, h => by
    unfold getF at h
    by_cases e : x = y
    · rw [if_pos e] at h; cases h
    · rw [if_neg e] at h
      unfold putF
      rw [if_neg e, putF_app h]; rfl
theorem VE.kb {σ σ' : MH} {e : Str × MV × Addr × Addr} {l : List Addr} (h : VE σ e) (k : KB l σ σ') (hn : ∀ a o, σ a = some o → a ∈ l → (∀ C d, o ≠ .inst C d) ∧ ∀ j : Int, o ≠ .ns (putF "slot" (.int j) (obfs e.1 "var" e.2.1 0))) : VE σ' e :=
  ⟨k _ _ (fun m => (hn _ _ h.o m).1 _ _ rfl) h.o, let ⟨j, hj⟩ := h.d; ⟨j, k _ _ (fun m => (hn _ _ hj m).2 j rfl) hj⟩⟩
theorem slot_len {j : Int} {x : Str} {t : MV} : (putF "slot" (.int j) (obfs x "var" t 0)).length = 14 := by
  have h : putF "slot" (.int j) (obfs x "var" t 0) = ([("name", .str x), ("kind", .str "var"), ("type", t), ("place", .int 0), ("exported", .bool false), ("readonly", .bool false), ("level", .int 0), ("module", .str ""), ("value", .none), ("slot", .int j), ("offset", .int 0), ("number", .int 0), ("isparam", .bool false), ("narrowed", .none)] : List (Str × MV)) := by decreasing_trivial
  rw [h]; rfl
/-- what the names' part turns is no name's object -/
theorem SF.mutNo {σ : MH} {tys : MV} {pre : List MV} {lv slots : Int} {names : List (Str × MV)} {order : List MV} (F : SF G σ tys pre lv slots names order) {x : Str} {t : MV} : ∀ a o, σ a = some o → a ∈ G.mut → (∀ C d, o ≠ .inst C d) ∧ ∀ j : Int, o ≠ .ns (putF "slot" (.int j) (obfs x "var" t 0)) := by
  intro a o e m
  simp only [GAdr.mut, List.mem_cons, List.not_mem_nil, or_false] at m
  rcases m with rfl | rfl | rfl
  · rw [F.nm] at e; cases e; exact ⟨fun _ _ h => (by cases h), fun _ h => (by cases h)⟩
  · rw [F.od] at e; cases e; exact ⟨fun _ _ h => (by cases h), fun _ h => (by cases h)⟩
  · rw [F.gd] at e; cases e
    refine ⟨fun _ _ h => (by cases h), fun j h => ?_⟩
    injection h with h
    have := congrArg List.length h
    rw [slot_len] at this
    simp [scpfs] at this
theorem mut_all {a : Addr} (ha : a ∈ G.mut) : a ∈ G.all := by
  simp only [GAdr.mut, List.mem_cons, List.not_mem_nil, or_false] at ha
  unfold GAdr.all
  simp only [List.mem_cons, List.not_mem_nil, or_false]
  rcases ha with rfl | rfl | rfl <;> simp
theorem law_loop {W : PAd} {src : Str} {s : PSt} {wd it : Addr} {due tys : MV} {pre : List MV} {σ0 : MH} {p1 p2 p3 : Pos} {j : Nat} {R : Fl → Loc → MH → Prop} {ms : List (Str × MV)} (hss : W.ss = G.ss) (hit : σ0 it = none) (hR0 : RDF W src σ0 s) (hw : ∀ a ∈ W.eight, a ∉ G.mut) (hnd : (ms.map (·.1)).Nodup) (hlen : ms.length ≤ 1000)
    (q : ∀ ml σ' done, VI G σ' tys pre done → done.map (fun e => (e.1, e.2.1)) = ms → RDF W src σ' s → KB G.mut σ0 σ' → LSub (lawML W wd due) ml → R .next ml σ') :
    ∀ (l : List (Str × MV)) (i : Nat) (σ : MH) (done : List (Str × MV × Addr × Addr)), done.map (fun e => (e.1, e.2.1)) ++ l = ms → i = done.length → (∀ a ∈ G.all, a ≠ it) → VI G σ tys pre done → σ it = some (.liter (.flist (ms.map fun e => .tup [.str e.1, e.2])) i) → KB (it :: G.mut) σ0 σ →
      FOR c (k + 3) (fScope (topAt 154)) (.Tuple [.Name "name" p1, .Name "t" p2] j p3) it lawFB (lawML W wd due) σ R := by
  intro l
  have nw : ∀ a ∈ W.eight, a ∉ it :: G.mut := fun a ha m => by
    rcases List.mem_cons.mp m with h | h
    · exact hR0.ne hit a ha h
    · exact hw a ha h
  induction l with
  | nil =>
    intro i σ done hd hi hne V hl kb
    have kd : KB [it] σ (delH σ it) := fun a o n e => by rw [delH_ne (fun e => n (by rw [e]; exact .head _))]; exact e
    have kb2 : KB (it :: G.mut) σ0 (delH σ it) := kb.trans (kd.mono fun a ha => by rw [List.mem_singleton.mp ha]; exact .head _)
    obtain ⟨⟨slots, order, f, fl⟩, ve⟩ := V
    refine for_end (nx_listend hl la_flist (by rw [← hd, hi]; simp)) (q _ _ done ⟨⟨slots, order, f.kb kd (fun a ha m => hne a ha (List.mem_singleton.mp m)), fl⟩, fun e he => (ve e he).kb kd fun a o ha m => ?_⟩ (by rw [← hd]; simp) (hR0.kb kb2 nw) (kb2.fresh hit) LSub.refl)
    rw [List.mem_singleton.mp m, hl] at ha
    cases ha
    exact ⟨fun _ _ h => (by cases h), fun _ h => (by cases h)⟩
  | cons e l ih =>
    intro i σ done hd hi hne V hl kb
    obtain ⟨x, t⟩ := e
    have hr : (ms.map fun e => MV.tup [.str e.1, e.2])[i]? = some (.tup [.str x, t]) := by
      rw [List.getElem?_map, ← hd, hi, List.getElem?_append_right (by simp)]
      simp
    have hx : memS x ((done.map fun e => (e.1, MV.ref e.2.2.1)).map (·.1)) = false := by
      cases e : memS x ((done.map fun e => (e.1, MV.ref e.2.2.1)).map (·.1)) with
      | false => rfl
      | true =>
        have h1 := sMem e
        rw [← hd, List.map_append, List.map_map] at hnd
        rw [List.map_map] at h1
        exact absurd (List.nodup_append.mp hnd).2.2 fun h => h x h1 x (.head _) rfl
    have hdl : done.length ≤ 1000 := by rw [← hd] at hlen; simp at hlen; lia
    refine for_item (nx_list hl la_flist hr) (lg_list (updH_same ..)) (aw_tup ?_ rfl (by kernel_rfl))
    refine aws_cons (aws_cons (aws_nil ?_))
    obtain ⟨⟨slots, order, f, fl⟩, ve⟩ := V
    have kd : KB [it] σ (updH σ it (.liter (.flist (ms.map fun e => .tup [.str e.1, e.2])) (i + 1))) := kb_upd (.head _)
    have hi1 : updH σ it (.liter (.flist (ms.map fun e => .tup [.str e.1, e.2])) (i + 1)) it = some (.liter (.flist (ms.map fun e => .tup [.str e.1, e.2])) (i + 1)) := updH_same ..
    generalize updH σ it (.liter (.flist (ms.map fun e => .tup [.str e.1, e.2])) (i + 1)) = σ1 at kd hi1 ⊢
    have kb1 : KB (it :: G.mut) σ0 σ1 := kb.trans (kd.mono fun a ha => by rw [List.mem_singleton.mp ha]; exact .head _)
    have f1 := f.kb kd (fun a ha m => hne a ha (List.mem_singleton.mp m))
    have ve1 : ∀ e ∈ done, VE σ1 e := fun e he => (ve e he).kb kd fun a o ha m => by
      rw [List.mem_singleton.mp m, hl] at ha
      cases ha
      exact ⟨fun _ _ h => (by cases h), fun _ h => (by cases h)⟩
    have R1 := hR0.kb kb1 nw
    refine sw_cons ?_
    trivial
    refine ⟨_, ga_inst pk.cReader.d R1.rd R1.rdd (List.mem_of_getElem? (i := 4) rfl) (r := .ref W.ss) rd_scopes, ?_⟩
    rw [hss]
    trivial
    refine ⟨_, mi_inst pk.cScopes.d f1.ss f1.ssd (.tail _ (.tail _ (.tail _ (.head _)))) (by decreasing_trivial), keeps_ref (pk.cScopes.d.meth _ _ (.tail _ (.tail _ (.tail _ (.head _))))).2.2, ?_⟩
    trivial
    refine FW.cw (insert_f f1 (.inr rfl) (getF_none hx) (by simp; lia) (by rw [fl]; lia) (sNe (by kernel_rfl!)) fun σ2 o dd F2 kb2 h1 h2 h3 h4 => ?_)
    trivial
    rw [if_pos rfl, putF_app (getF_none hx)] at F2
    rw [if_pos rfl] at h4
    refine FOR.loco (l := lawML W wd due) ?_ (ih (i + 1) σ2 (done ++ [(x, t, o, dd)]) (by rw [← hd]; simp) (by simp [hi]) hne ⟨⟨slots + 1, order ++ [.ref o], by rw [List.map_append]; exact F2, by simp [fl]⟩, fun e he => ?_⟩ (kb2 _ _ (fun m => hne it (mut_all m) rfl) hi1) (kb1.trans (kb2.mono fun a ha => .tail _ ha)))
    · repeat (first | exact lsub_nil | refine lsub_cons (by decreasing_trivial) ?_)
    · rcases List.mem_append.mp he with he | he
      · exact (ve1 e he).kb kb2 f1.mutNo
      · rw [List.mem_singleton.mp he]
        exact ⟨h3, slots, h4⟩
end
section
variable {G : GAdr}
theorem rdfs_len11 {W : PAd} {t : MV} : (rdfs W t).length ≤ 11 := by
  rcases rdfs_or (W := W) (t := t) with e | e
  · rw [e]; exact Nat.le_of_ble_eq_true rfl
  · rw [rdfs_tok e]; exact Nat.le_of_ble_eq_true rfl
noncomputable def sixL : List (Str × MV) := [("i", tyI), ("j", tyI), ("s", tyS), ("t", tyS), ("b", tyB), ("c", tyB)]
theorem six_of {done : List (Str × MV × Addr × Addr)} (h : done.map (fun e => (e.1, e.2.1)) = sixL) : ∃ f : Kd → Bool → Addr × Addr,
    done = ([("i", tyI, f .i false), ("j", tyI, f .i true), ("s", tyS, f .s false), ("t", tyS, f .s true), ("b", tyB, f .b false), ("c", tyB, f .b true)] : List (Str × MV × Addr × Addr)) := by
  unfold sixL at h
  obtain ⟨⟨x1, t1, o1⟩, l1, rfl, e1, h⟩ := List.map_eq_cons_iff.mp h
  obtain ⟨⟨x2, t2, o2⟩, l2, rfl, e2, h⟩ := List.map_eq_cons_iff.mp h
  obtain ⟨⟨x3, t3, o3⟩, l3, rfl, e3, h⟩ := List.map_eq_cons_iff.mp h
  obtain ⟨⟨x4, t4, o4⟩, l4, rfl, e4, h⟩ := List.map_eq_cons_iff.mp h
  obtain ⟨⟨x5, t5, o5⟩, l5, rfl, e5, h⟩ := List.map_eq_cons_iff.mp h
  obtain ⟨⟨x6, t6, o6⟩, l6, rfl, e6, h⟩ := List.map_eq_cons_iff.mp h
  obtain rfl := List.map_eq_nil_iff.mp h
  injection e1 with a1 b1; injection e2 with a2 b2; injection e3 with a3 b3; injection e4 with a4 b4; injection e5 with a5 b5; injection e6 with a6 b6
  subst a1 a2 a3 a4 a5 a6
  dsimp only at b1 b2 b3 b4 b5 b6
  subst b1 b2 b3 b4 b5 b6
  exact ⟨fun kd alt => match kd, alt with | .i, false => o1 | .i, true => o2 | .s, false => o3 | .s, true => o4 | .b, false => o5 | .b, true => o6, rfl⟩
theorem names_ok {W : PAd} {src : Str} {σ : MH} {s : PSt} {tys : MV} {g0 : Addr} {done : List (Str × MV × Addr × Addr)} (V : VI G σ tys [.ref g0] done) (h6 : done.map (fun e => (e.1, e.2.1)) = sixL) (R : RDF W src σ s) (hss : W.ss = G.ss) (hr : s.rows = []) :
    ∃ W' base, W'.rd = W.rd ∧ W'.er = W.er ∧ W'.kn = W.kn ∧ POKs W' src base ∧ POKv W' base ∧ PS W' src base s = σ ∧ ∀ a o, σ a = some o → (∀ l, o ≠ .ns l) → (∀ l, o ≠ .list l) → (∀ l, o ≠ .idt l) → base a = some o := by
  obtain ⟨f, rfl⟩ := six_of h6
  obtain ⟨⟨slots, order, F, _⟩, ve⟩ := V
  let W' : PAd := { W with ssd := G.ssd, stk := G.stk, g0 := g0, g1 := G.g, g1d := G.gd, nms := G.nm, vo := fun kd alt => (f kd alt).1, vd := fun kd alt => (f kd alt).2 }
  have R' : RDF W' src σ s := ⟨R.scd, R.rdd, R.rows, R.places, R.sc, R.rd, R.er, R.erd, R.len⟩
  obtain ⟨ok, eb, at_⟩ := R'.split
  have hl10 := rdfs_len10 (W := W') (t := s.tok)
  have hl11 := rdfs_len11 (W := W') (t := s.tok)
  have other : ∀ a o, σ a = some o → (∀ l, o ≠ .ns l) → (∀ l, o ≠ .list l) → (∀ l, o ≠ .idt l) → RDF.base W' σ a = some o := fun a o h h1 h2 h3 =>
    at_ a o h (ne_of_diff h R'.scd (h1 _)) (ne_of_diff h R'.rdd (h1 _)) (ne_of_diff h R'.rows (h2 _)) (ne_of_diff h R'.places (h3 _))
  have inst : ∀ {a C d : Addr}, σ a = some (.inst C d) → RDF.base W' σ a = some (.inst C d) := fun h => other _ _ h (fun _ h => by cases h) (fun _ h => by cases h) (fun _ h => by cases h)
  have ns : ∀ {a : Addr} {l : List (Str × MV)}, σ a = some (.ns l) → l ≠ scfs W' src s.place → l.length < 10 ∨ 11 < l.length → RDF.base W' σ a = some (.ns l) := fun {a l} h h1 h2 =>
    at_ a _ h (ne_of_diff h R'.scd (fun e => by injection e with e; exact h1 e)) (ne_of_diff h R'.rdd (fun e => by injection e with e; rw [e] at h2; lia)) (ne_of_diff h R'.rows (fun e => by cases e)) (ne_of_diff h R'.places (fun e => by cases e))
  have vo : ∀ kd alt, VE σ (varNames kd alt, tyK kd, f kd alt) := by
    intro kd alt
    apply ve
    cases kd <;> cases alt <;> simp [varNames, tyK]
  refine ⟨W', RDF.base W' σ, rfl, rfl, rfl, ok, ⟨?_, ⟨_, ns F.ssd ?_ (.inl (by simp)), by decreasing_trivial, by decreasing_trivial⟩, ?_, inst F.g, ⟨_, ns F.gd ?_ (.inl (by simp [scpfs])), by unfold scpfs; decreasing_trivial⟩, ⟨_, other _ _ F.nm (fun _ h => by cases h) (fun _ h => by cases h) (fun _ h => by cases h), ?_⟩, fun kd alt => inst (vo kd alt).o, fun kd alt => ?_⟩, eb, other⟩
  · show RDF.base W' σ W.ss = _
    rw [hss]; exact inst F.ss
  · intro h
    unfold scfs at h
    simp [ofS_inj] at h
  · refine at_ _ _ F.stk (ne_of_diff F.stk R'.scd (fun e => by cases e)) (ne_of_diff F.stk R'.rdd (fun e => by cases e)) (ne_of_diff F.stk R'.rows (fun e => ?_)) (ne_of_diff F.stk R'.places (fun e => by cases e))
    injection e with e
    rw [hr] at e; cases e
  · intro h
    have := congrArg List.length h
    simp [scfs, scpfs] at this
  · intro kd alt
    cases kd <;> cases alt <;> (show getF _ _ = _; simp only [List.map_cons, List.map_nil, varNames]; decreasing_trivial)
  · obtain ⟨j, hj⟩ := (vo kd alt).d
    refine ⟨_, ns hj (fun h => ?_) (.inr (by rw [slot_len]; decide)), by decreasing_trivial, by decreasing_trivial, by decreasing_trivial, by decreasing_trivial⟩
    have := congrArg List.length h
    rw [slot_len] at this
    simp [scfs] at this
end
mutual
theorem depD_le : ∀ m : MV, (toD m).depth ≤ depD m
  | .none => Nat.le_refl _
  | .bool _ => Nat.le_refl _
  | .int _ => Nat.le_refl _
  | .str _ => Nat.le_refl _
  | .ref _ => Nat.le_refl _
  | .tup l => Nat.succ_le_succ (depDs_le l)
  | .flist l => Nat.succ_le_succ (depDs_le l)
  | .finst _ _ => Nat.le_refl _
theorem depDs_le : ∀ l : List MV, PyData.depthAll (toDs l) ≤ depDs l
  | [] => Nat.le_refl _
  | m :: l => Nat.max_le.mpr ⟨Nat.le_trans (depD_le m) (Nat.le_max_left _ _), Nat.le_trans (depDs_le l) (Nat.le_max_right _ _)⟩
end
section
theorem nm_ok {name : Str} (h : name ∈ nmL) : PyData.strOk name = true := by
  have : ∀ x ∈ nmL, PyData.strOk x = true := by decide +kernel
  exact this _ h
theorem form_ok (kd : Kd) : PyData.strOk kd.form = true := by cases kd <;> decide +kernel
theorem var_ok (kd : Kd) (alt : Bool) : PyData.strOk (varNames kd alt) = true := by cases kd <;> cases alt <;> decide +kernel
theorem shp_ok {W : PAd} {d : Nat} {kd : Kd} {b : Bool} {nd due : MV} (h : Shp W d kd b nd due) : okD due = true ∧ depD due ≤ 2 * d := by
  induction h with
  | var kd alt p => 
    have h1 : PyData.strOk "var" = true := by decide +kernel
    refine ⟨by simp [okD, okDs, h1, form_ok, var_ok], by simp [depD, depDs]; lia⟩
  | num m p h1 h2 =>
    have h1 : PyData.strOk "const" = true := by decide +kernel
    have h2 : PyData.strOk "integer" = true := by decide +kernel
    refine ⟨by simp [okD, okDs, h1, h2], by simp [depD, depDs]; lia⟩
  | un hn _ ih => 
    obtain ⟨a, b⟩ := ih
    refine ⟨by simp [node, okD, okDs, nm_ok hn, form_ok, a], by simp [node, depD, depDs]; lia⟩
  | bin hn _ _ ih1 ih2 =>
    obtain ⟨a1, b1⟩ := ih1
    obtain ⟨a2, b2⟩ := ih2
    refine ⟨by simp [node, okD, okDs, nm_ok hn, form_ok, a1, a2], by simp [node, depD, depDs]; lia⟩
theorem lackNow_end {r : Res} {ts : List Tk} {n : Nat} : lackNow (lackSt .none ts r.st) n = match r with
    | .ok _ => .none
    | .bad [] => .int n
    | .bad (t :: _) => .int t.at' := by
  cases r with
  | ok t => cases ts <;> rfl
  | bad p =>
    cases p with
    | nil => rfl
    | cons t l => show lackNow (.int _) _ = _; unfold lackNow; dsimp only; rw [if_neg (by lia)]
theorem hp_end {src : Str} {p : List Tk} : hp src p = match p with
    | [] => src.length
    | t :: _ => t.at' := by cases p <;> rfl
/-- what a whole text may be -/
noncomputable def GenP (ts : List Tk) (r : Res) : Prop := RelP (OpdP 2) ts r ∨ ∃ kd, RowP (OpdP 2) kd ts r
theorem expr_w {W : PAd} {src : Str} {base : MH} (ok : POKs W src base) (ov : POKv W base) {ts : List Tk} {r : Res} {s : PSt} {Q : MV → MH → Prop} (hG : GenP ts r) (hc : Cur src s ts) (hcl : Clean s)
    (q : ∀ s' nd, Cur src s' [] → (∃ d kd, d ≤ 19 ∧ Out W src d kd false [] ts.length s r nd s') → Q nd (PS W src base s')) : FW c 27 (.ref (pk.fa 106)) [.ref W.rd] (PS W src base s) Q := by
  obtain ⟨_, hR, hL⟩ := read_w ok ov 2 (Nat.le_refl _)
  have hc' : Cur src s (ts ++ []) := by rw [List.append_nil]; exact hc
  have he : hk [] ∈ endK := .tail _ (.head _)
  rcases hG with h | ⟨kd, h⟩
  · exact hL h hc' he (.inr hcl) fun s' nd h1 h2 => q s' nd h1 ⟨_, _, Nat.le_of_ble_eq_true rfl, h2⟩
  · exact hR h hc' he (.inr hcl) fun s' nd h1 h2 => q s' nd h1 ⟨_, _, Nat.le_of_ble_eq_true rfl, h2⟩
end
section
theorem fac_str : PyData.strOk "expected factor" = true := by decide +kernel
theorem eqv_int (i : Int) : okD (.tup [.int i, .str "expected factor"]) = true := by simp [okD, okDs, fac_str]
noncomputable def lackEnd (src : Str) : Res → MV
  | .ok _ => .none
  | .bad p => .int (hp src p)
/-- from the call of the parser on -/
theorem law_tail {W : PAd} {src : Str} {base : MH} (ok : POKs W src base) (ov : POKv W base) {ts : List Tk} {r : Res} {s : PSt} (hG : GenP ts r) (hc : Cur src s ts) (hcl : Clean s) {wd : Addr} {due : MV} {w : GW} (hwd : base wd = some (.sd (wfs w)))
    (hl : w.lack = lackEnd src r) (hd : ∀ t, r = .ok t → due = t) :
    SW c 30 (fScope (topAt 154)) (lawB.drop 9) (lawML W wd due) (PS W src base s) (retP fun v _ => v = .bool true) := by
  refine sw_cons ?_
  trivial
  refine ew_callG pk.fexpression.g pk.fexpression.k ?_
  trivial
  refine FW.cw ((expr_w ok ov hG hc hcl fun s' nd h1 h2 => ?_).le (by lia))
  obtain ⟨d, kd, hd19, ho⟩ := h2
  trivial
  refine ⟨st_sd (ps_at ok hwd), ow_getsd (ps_at ok hwd) wfs_lack ?_⟩
  cases r with
  | ok t =>
    obtain ⟨hs, b, hsh, _⟩ := ho
    obtain rfl := hd t rfl
    have cl' := hcl.to hs
    obtain ⟨hok, hdep⟩ := shp_ok hsh
    rw [show w.lack = .none from hl]
    trivial
    refine if_f ?_
    trivial
    refine ⟨_, _, rfl, ps_rows ok, ?_⟩
    rw [cl'.rows]
    refine ⟨_, rfl, if_t ?_⟩
    trivial
    refine FW.cw ((at_w (k := 0) ok h1 ?_).le (by lia))
    trivial
    refine ew_callG pk.fLshape.g pk.fLshape.k ?_
    trivial
    refine FW.cw ((shape_w (k := 0) ov hsh (fun a o e => ps_at ok e) ?_).le (by lia))
    trivial
    refine ow_eqdata hok hok (Nat.le_trans (Nat.min_le_left _ _) (Nat.le_trans (depD_le due) (by lia))) ?_
    rw [eqv_self hok]
    trivial
    rfl
  | bad p =>
    obtain ⟨hD, _⟩ := ho
    obtain ⟨rest, hrows⟩ := hD.rows
    rw [show w.lack = .int (hp src p) from hl]
    trivial
    refine if_t ?_
    trivial
    refine ⟨_, _, rfl, ps_rows ok, ?_⟩
    rw [hrows]
    refine ⟨_, rfl, if_t ?_⟩
    trivial
    refine ⟨st_list (la_ref (ps_rows ok)), ow_idx (la_ref (ps_rows ok)) (r := errAt src (p ++ [])) (by decide) (by decide) (by rw [hrows]; rfl) ?_⟩
    trivial
    refine ⟨st_sd (ps_at ok hwd), ow_getsd (ps_at ok hwd) wfs_lack ?_⟩
    rw [show w.lack = .int (hp src p) from hl]
    trivial
    unfold errAt
    rw [List.append_nil]
    refine ow_eqdata (eqv_int _) (eqv_int _) (Nat.le_of_ble_eq_true rfl) ?_
    rw [eqv_self (eqv_int _)]
    trivial
    rfl
end
section
theorem gen_len {ts : List Tk} {r : Res} (h : GenP ts r) : ts.length ≤ 1400 := by
  rcases h with h | ⟨kd, h⟩
  · have := rel_toks (opd_toks 2) h
    have e : NO 2 = 163 := rfl
    lia
  · have := row_toks (opd_toks 2) h
    have e : NO 2 = 163 := rfl
    lia
theorem lack_fin {src : Str} {r : Res} {ts : List Tk} : lackNow (lackSt .none ts r.st) src.length = lackEnd src r := by
  rw [lackNow_end]
  cases r with
  | ok t => rfl
  | bad p => cases p <;> rfl
/-- behind the generator -/
theorem law_mid {W : GAd} {base : MH} {fs : List Int} {a b : Int} {w : GW} (okg : GOK W base fs) {ts : List Tk} {r : Res} {due : MV} {ml : Loc} (hG : GenP ts r) (hlay : Lay 0 ts w.wide) (hl : w.lack = lackSt .none ts r.st) (hd : ∀ t, r = .ok t → due = t)
    (h1 : getM "world" ml = some (.ref W.world)) (h2 : getM "due" ml = some due) :
    SW c 30 (fScope (topAt 154)) (lawB.drop 3) ml (GS W base a b w) (retP fun v _ => v = .bool true) := by
  have hlen := gen_len hG
  have hwl := hlay.len
  refine SW.loco (l := [("world", .ref W.world), ("due", due)]) (lsub_cons h1 (lsub_cons h2 lsub_nil)) ?_
  refine sw_cons ?_
  trivial
  refine ew_callG pk.fLlack.g pk.fLlack.k ?_
  trivial
  refine ew_callB pk.blen rfl keeps_bi (by decide) ?_
  trivial
  refine ⟨st_sd gs_world, ow_getsd gs_world wfs_wide ?_⟩
  trivial
  refine cw_lenstr (by lia) ?_
  trivial
  refine FW.cw ((lack_w (k := 0) (by rw [hl]; exact LOK.none.st _ _) ?_).le (by lia))
  have hw0 : GS W base a b { w with lack := lackNow w.lack w.wide.length } W.world = some (.sd (wfs { w with lack := lackNow w.lack w.wide.length })) := gs_world
  have hle : lackNow w.lack w.wide.length = lackEnd w.wide r := by rw [hl]; exact lack_fin
  rw [hle] at hw0 ⊢
  generalize GS W base a b { w with lack := lackEnd w.wide r } = σ0 at hw0 ⊢
  trivial
  refine ew_callG pk.cTypes.g pk.cTypes.k ?_
  trivial
  refine OW.le (types_w (k := 0) fun kn hkn => ?_) (by lia)
  have hw1 := updH_new (o := .sd []) hkn hw0
  generalize updH σ0 kn (.sd []) = σ1 at hw1 ⊢
  trivial
  refine ew_callG pk.cErrorList.g pk.cErrorList.k ?_
  trivial
  refine OW.le (errs_w (k := 0) fun er erd rows places e1 e2 e3 e4 n1 n2 n3 n4 n5 n6 => ?_) (by lia)
  have t0 : ∀ {a o}, σ1 a = some o → INI (updH (updH σ1 rows (.list [])) places (.idt [])) (pk.ca 119) er erd [("rows", .ref rows), ("places", .ref places)] a = some o := fun {a o} h => by
    unfold INI
    rw [updH_ne (ne_of_fresh' e1 h), updH_ne (ne_of_fresh' e2 h), updH_ne (ne_of_fresh' e4 h), updH_ne (ne_of_fresh' e3 h)]; exact h
  have t1 : INI (updH (updH σ1 rows (.list [])) places (.idt [])) (pk.ca 119) er erd [("rows", .ref rows), ("places", .ref places)] er = some (.inst (pk.ca 119) erd) := ini_inst
  have t2 : INI (updH (updH σ1 rows (.list [])) places (.idt [])) (pk.ca 119) er erd [("rows", .ref rows), ("places", .ref places)] erd = some (.ns [("rows", .ref rows), ("places", .ref places)]) := ini_ns n1
  have t3 : INI (updH (updH σ1 rows (.list [])) places (.idt [])) (pk.ca 119) er erd [("rows", .ref rows), ("places", .ref places)] rows = some (.list []) := by
    unfold INI; rw [updH_ne n2, updH_ne n3, updH_ne (Ne.symm n6)]; exact updH_same ..
  have t4 : INI (updH (updH σ1 rows (.list [])) places (.idt [])) (pk.ca 119) er erd [("rows", .ref rows), ("places", .ref places)] places = some (.idt []) := by
    unfold INI; rw [updH_ne n4, updH_ne n5]; exact updH_same ..
  have hw2 := t0 hw1
  generalize INI (updH (updH σ1 rows (.list [])) places (.idt [])) (pk.ca 119) er erd [("rows", .ref rows), ("places", .ref places)] = σ2 at hw2 t1 t2 t3 t4 ⊢
  trivial
  refine ew_callG pk.cReader.g pk.cReader.k ?_
  trivial
  refine ⟨st_sd hw2, ow_getsd hw2 wfs_wide ?_⟩
  trivial
  refine OW.le (reader_w (k := 0) (ts := ts) t1 t2 t3 t4 (by show w.wide.length ≤ _; lia) ⟨w.wide, hlay, rfl, by show 0 + w.wide.length = w.wide.length; lia⟩ fun W' σ3 s G ks g1 g2 g3 R C Cl K S8 D8 fr => ?_) (by lia)
  have hw3 := S8 _ _ hw2
  trivial
  refine ⟨_, ga_inst pk.cReader.d R.rd R.rdd (List.mem_of_getElem? (i := 4) rfl) (r := .ref W'.ss) rd_scopes, ?_⟩
  rw [g3]
  trivial
  refine ⟨_, mi_inst pk.cScopes.d K.at.1 K.at.2 (.tail _ (.head _)) (by decreasing_trivial), keeps_ref (pk.cScopes.d.meth _ _ (.tail _ (.head _))).2.2, ?_⟩
  trivial
  obtain ⟨names, order, F, _, _⟩ := K.ex
  refine FW.cw ((open_f (k := 0) F (Nat.zero_le _) fun G' σ4 j1 j2 F' k4 i1 i2 i3 i4 => ?_).le (by lia))
  have nG : ∀ b ∈ ([G.ssd, G.stk] : List Addr), b ∈ G.all := fun b hb => by
    simp only [List.mem_cons, List.not_mem_nil, or_false] at hb
    unfold GAdr.all
    simp only [List.mem_cons, List.not_mem_nil, or_false]
    rcases hb with rfl | rfl <;> simp
  have R4 := R.kb k4 fun a ha m => D8 a ha a (nG a m) rfl
  have hw4 := k4 _ _ (fun m => by have := fr _ (nG _ m); rw [hw2] at this; cases this) hw3
  have m4 : ∀ a ∈ W'.eight, a ∉ G'.mut := fun a ha m => by
    simp only [GAdr.mut, List.mem_cons, List.not_mem_nil, or_false] at m
    rcases m with rfl | rfl | rfl
    · exact R.ne i3 _ ha rfl
    · exact R.ne i4 _ ha rfl
    · exact R.ne i2 _ ha rfl
  have w4 : W.world ∉ G'.mut := fun m => by
    simp only [GAdr.mut, List.mem_cons, List.not_mem_nil, or_false] at m
    rcases m with m | m | m
    · rw [m, i3] at hw3; cases hw3
    · rw [m, i4] at hw3; cases hw3
    · rw [m, i2] at hw3; cases hw3
  trivial
  refine s_for ?_
  refine ew_flist ?_
  trivial
  refine it_list la_flist fun it hit => ?_
  refine FOR.loco (l := lawML W' W.world due) ?_ (law_loop (k := 27) (W := W') (s := s) (σ0 := σ4) (ms := sixL) (g3.trans j1.symm) hit R4 m4 ?_ (Nat.le_of_ble_eq_true rfl) (fun ml σ5 done V h6 R5 k5 hs => ?_) (sixL) 0 _ [] rfl rfl (F'.ne hit) ⟨⟨0, [], F'.fresh hit (kb_upd (.head _)), rfl⟩, fun e he => (by cases he)⟩ (updH_same ..) (kb_upd (.head _)))
  · unfold lawML; rw [g1]
    repeat (first | exact lsub_nil | refine lsub_cons (by decreasing_trivial) ?_)
  · show ([("i" : Str), "j", "s", "t", "b", "c"] : List Str).Nodup
    decide +kernel
  · have hw5 := k5 _ _ w4 hw4
    obtain ⟨W2, b2, y1, y2, y3, ok, ov, eb, at_⟩ := names_ok V h6 R5 (g3.trans j1.symm) Cl.rows
    refine beh_next (SW.loco hs ?_)
    rw [← eb]
    have e : lawML W' W.world due = lawML W2 W.world due := by unfold lawML; rw [y1, y2]
    rw [e]
    exact law_tail ok ov hG C Cl (at_ _ _ hw5 (fun _ h => by cases h) (fun _ h => by cases h) (fun _ h => by cases h)) rfl hd
end
section
theorem law_w (hs : c.sn.length ≤ 1000) {σ : MH} {ml : Loc} (hsc : getM "script" ml = some (.ref c.sl)) : SW c 30 (fScope (topAt 154)) lawB ml σ (retP fun v _ => v = .bool true) := by
  refine SW.loco (l := [("script", .ref c.sl)]) (lsub_cons hsc lsub_nil) ?_
  obtain ⟨_, hR, hL⟩ := gen_w 2 (Nat.le_refl _)
  refine sw_cons ?_
  trivial
  refine ew_callG pk.fLpool.g pk.fLpool.k ?_
  trivial
  refine FW.cw ((pool_w (k := 0) hs fun D P fs b h1 h2 h3 h4 h5 => ?_).le (by lia))
  trivial
  refine ew_dict fun d hd => ?_
  trivial
  refine ⟨updH_same .., ?_⟩
  rw [updH_updH]
  have n1 : d ≠ P := fun e => by subst e; rw [updH_same] at hd; cases hd
  have n2 : d ≠ D := fun e => by subst e; rw [updH_ne n1, updH_same] at hd; cases hd
  have okg : GOK ⟨P, D, d⟩ (updH σ D (.list (fs.map .int))) fs := ⟨updH_same .., Ne.symm n1, Ne.symm h3, Ne.symm n2, h4⟩
  have e0 : updH (updH (updH σ D (.list (fs.map .int))) P (.list [.ref D, .int 0, .int b])) d (.sd (putAll [] [("wide", .str ""), ("lack", .none), ("room", .int 12)])) = GS ⟨P, D, d⟩ (updH σ D (.list (fs.map .int))) 0 b ⟨"", .none, 12⟩ := by
    unfold GS
    rw [show putAll [] [("wide", .str ""), ("lack", .none), ("room", .int 12)] = wfs ⟨"", .none, 12⟩ from by unfold wfs; decreasing_trivial]
  rw [e0]
  have wide0 : ∀ x : Str, ("" : Str) ++ x = x := fun x => str_nil_app x
  trivial
  refine ew_callG pk.fLpick.g pk.fLpick.k ?_
  trivial
  refine FW.cw ((pick_w (k := 0) okg h5 (by decide) fun a' b' r0 p' _ _ => ?_).le (by lia))
  trivial
  refine if_d (fun e => ?_) (fun e => ?_)
  · trivial
    refine ew_callG pk.fLrelation.g pk.fLrelation.k ?_
    trivial
    refine FW.cw ((hL okg p' .none (by show 0 + _ ≤ _; decide) fun a2 b2 w' mv ts r x p2 g1 g2 g3 g4 g5 g6 => ?_).le (by lia))
    have hx : w'.wide = x := g3.trans (wide0 x)
    refine beh_next (sw_nil (beh_next (SW.loco (l := [("world", .ref d), ("due", mv)]) ?_ (law_mid okg (.inl g1) (by rw [hx]; exact g2) g5 g6 (by decreasing_trivial) (by decreasing_trivial)))))
    repeat (first | exact lsub_nil | refine lsub_cons (by decreasing_trivial) ?_)
  · trivial
    refine ew_callG pk.fLrow.g pk.fLrow.k ?_
    trivial
    refine ew_callG pk.fLpick.g pk.fLpick.k ?_
    trivial
    refine FW.cw ((pick_w (k := 0) okg p' (by decide) fun a3 b3 r1 p3 q0 q1 => ?_).le (by lia))
    obtain ⟨kd, hkd⟩ : ∃ kd : Kd, ∃ dd, ("isb" : Str).cps[r1.toNat]? = some dd ∧ (⟨#[dd]⟩ : Str) = kd.str := by
      have h3 : r1 = 0 ∨ r1 = 1 ∨ r1 = 2 := by lia
      rcases h3 with rfl | rfl | rfl
      · exact ⟨.i, _, rfl, rfl⟩
      · exact ⟨.s, _, rfl, rfl⟩
      · exact ⟨.b, _, rfl, rfl⟩
    obtain ⟨dd, k1, k2⟩ := hkd
    refine ⟨st_str, ow_stridx q0 (by lia) k1 ?_⟩
    rw [k2]
    trivial
    refine FW.cw ((hR okg p3 .none (by show 0 + _ ≤ _; decide) kd fun a2 b2 w' mv ts r x p2 g1 g2 g3 g4 g5 g6 => ?_).le (by lia))
    have hx : w'.wide = x := g3.trans (wide0 x)
    refine beh_next (sw_nil (beh_next (SW.loco (l := [("world", .ref d), ("due", mv)]) ?_ (law_mid okg (.inr ⟨kd, g1⟩) (by rw [hx]; exact g2) g5 g6 (by decreasing_trivial) (by decreasing_trivial)))))
    repeat (first | exact lsub_nil | refine lsub_cons (by decreasing_trivial) ?_)
end
noncomputable abbrev dL : DefRec := ⟨"law", fArgs (topAt 154), fBody (topAt 154), fScope (topAt 154), ⟨1315, 0, 1332, 75⟩⟩
theorem law_ok : LawOK c := fun σ ml hs hsc => law_w hs hsc
theorem hdef_ok : defOf QW LW.row.name = some (dL, []) := by kernel_rfl
theorem hp_ok : LW.row.prog.theDef LW.row.name = some (dL.params, dL.body, dL.scope) := by kernel_rfl
theorem bind_ok (v : Value) (pm cd doc : Value) : bindArgs { docDef dL.name dL.params dL.body dL.scope pm cd doc with defaults := .none, kwdefaults := .none } ⟨[v], []⟩ = pure [(Str.ofString "script", v)] := by kernel_rfl
set_option tactic.hygienic true in
theorem walk_ok : WalkO QW looseL (fun _ _ => True) (fun w h => (KF w.params).In h) LW.row.toRowW dL [] (fun f vs => PySem.call f vs) := by
  intro w s₀ s₁ mg mb G Y fa o pm cd doc dV kV ho hd hcd hD hmg hg args vals as hpre hlay hrd hwl hlo
  have KX : (KF w.params).In s₁.heap := Y
  wrow_args hpre hlay hrd hwl hlo
  rename_i ns _ _ _ _ _ _ _ a vs _ hL _ _ _ hI _ hlen _
  have he := Dflts.none hD rfl
  subst he
  have he := Dflts.noKw hD
  subst he
  refine enter_call (codeAny_mono ?_ (fun _ _ g => GoodW.toG g))
  refine call_fullW_ret (by decide) ho hd (Top.nolimit G.T) hcd (BindsTo.of_eq (bind_ok _ _ _ _)) (locs rfl) fun h₁ F => ?_
  let d : Cx := ⟨PW, w, KF w.params, QW, looseW QW looseL, ExcName.means s₀.heap, mg, mb, s₁, a, vs, ns⟩
  have P' : Pt d 30 (callerA.deeper (envOf dL.name dL.scope s₁.heap.objs.size fa cd)) (envOf dL.name dL.scope s₁.heap.objs.size fa cd) s₁.heap s₁.heap.objs.size :=
    ⟨⟨callerA, s₁.heap, [], below_caller _, Around.frames_deeper rfl⟩, rfl, by kernel_rfl, KX, G.T, Nat.le_of_ble_eq_true (by kernel_rfl), Nat.le_of_ble_eq_true (by kernel_rfl), rfl, hL, hI⟩
  have hslen : d.sn.length ≤ 1000 := by show ns.length ≤ 1000; omega
  have S' : SR d s₁.heap s₁.heap.objs.size (fun _ => none) (fun x => List.lookup x [(Str.ofString "script", Value.ref a)].reverse) [("script", .ref a)] (fun _ => none) { s₁ with heap := h₁, toks := s₁.toks + [(Str.ofString "script", Value.ref a)].length } := by
    refine ⟨F, ?_, ⟨[], News.nil, ?_⟩, rfl, rfl, rfl⟩
    · exact lookup_zip (names := [Str.ofString "script"]) (ms := [.ref a]) (vs := [.ref a]) (List.nodup_cons.mpr ⟨List.not_mem_nil, List.nodup_nil⟩) (.cons (.ref a) .nil)
    · exact ⟨fun _ _ e => (by cases e), fun _ _ e => (by cases e)⟩
  refine wpAny_mono (of_c law_ok d rfl _ [("script", .ref a)] hslen rfl _ _ _ _ _ _ _ _ _ P' S') (fun fl s' ⟨fl', ml', σ', Z', m', hz, hf, S₂, q⟩ => ?_) fun _ _ x => x.elim
  cases hf with
  | next => cases q
  | brk => cases q
  | cont => cases q
  | ret V' =>
    have q' := q
    change _ = _ at q'
    subst q'
    cases V'
    exact goodW_bool S₂.F (S₂.gens.trans hg) (fun cls => rfl) (by kernel_rfl) S₂.os
open PySem.W.Fast in
theorem kv1 : readsOut LW.row.prog LW.row.prog.main.body "vars" = false := by rw [te13343964577679436407]; kernel_rfl
open PySem.W.Fast in
theorem kv2 : readsOut LW.row.prog LW.row.prog.main.body "dir" = false := by rw [te13343964577679436407]; kernel_rfl
open PySem.W.Fast in
theorem kv3 : readsOut LW.row.prog LW.row.prog.main.body "locals" = false := by rw [te13343964577679436407]; kernel_rfl
theorem kbare : List.filter (readsOut LW.row.prog LW.row.prog.main.body) ["vars", "dir", "locals"] = [] := by
  rw [List.filter_cons, kv1, List.filter_cons, kv2, List.filter_cons, kv3]; rfl
open PySem.W.Fast in
theorem ke : noRoadLSs { strict := !(importedModules LW.row.prog.main.body).all cThrough.contains, foot := none, bare := List.filter (readsOut LW.row.prog LW.row.prog.main.body) ["vars", "dir", "locals"] } LW.row.prog.main.body = true := by
  rw [kbare, te5923862056798008813, te8326940854005059898]; kernel_rfl
open PySem.W.Fast in
theorem kc : namesResolve LW.row.prog = true := by rw [te8377067652309620493]; kernel_rfl
open PySem.W.Fast in
theorem kf : (namesMeet LW.row.prog LW.row.prog.main.body fun x n => attrL n) = true := by rw [te17119622794617984870, te17868728402115742887]; kernel_rfl
open PySem.W.Fast in
theorem looks_said : looksOpen LW.row.prog = true := by
  unfold looksOpen
  repeat (with_reducible refine look_both ?_ ?_)
  · rw [te11788848310118352699]; kernel_rfl
  · rw [te9807087744658564304]; kernel_rfl
  · exact kc
  · rw [te18344453789297297638]; kernel_rfl
  · exact ke
  · exact kf
open PySem.W.Fast in
theorem row_said' : LW.row.wellSaid = true := by
  unfold OpenRow.wellSaid OpenRow.partSaid
  repeat (with_reducible refine look_both ?_ ?_)
  · exact looks_said
  · rfl
  · rfl
  · rfl
  · rfl
  · rfl
  · rfl
  · kernel_rfl
  · kernel_rfl
  · kernel_rfl
  · rfl
  · rfl
  · rfl
  · rfl
  · rw [te18344453789297297638]; kernel_rfl
  · kernel_rfl
open PySem.W.Fast in
theorem l1 : noRoadLSs { strict := true, foot := some LW.bound', writes := LW.writes, may := LW.may } LW.footing = true := by
  unfold OpenLaw.bound'
  rw [te8326940854005059898, te18344453789297297638, te10792542408131684335]; kernel_rfl
open PySem.W.Fast in
theorem l2 : (LW.bound'.all fun n => !builtinNamed n || LW.about == [n] || !LW.reads n) = true := by
  unfold OpenLaw.bound' OpenLaw.reads
  rw [te18344453789297297638, te10792542408131684335, te13343964577679436407]; kernel_rfl
open PySem.W.Fast in
theorem l3 : (namesMeet LW.prog LW.footing fun sc n =>
      (!(["type", "isinstance", "issubclass", "getattr", "hasattr"] : List Str).contains n ||
          List.lookup n sc.names == some NameKind.globalImplicit) &&
        (LW.may != some n || sc.kind == ScopeKind.module || List.lookup n sc.names == some NameKind.globalImplicit)) =
    true := by
  rw [te17119622794617984870]; kernel_rfl
open PySem.W.Fast in
theorem l4 : LW.own.contains LW.name = true := by rw [te10792542408131684335]; kernel_rfl
open PySem.W.Fast in
theorem l5 : (LW.own.eraseDups.length == LW.own.length) = true := by rw [te10792542408131684335, te7723801398212525404]; kernel_rfl
open PySem.W.Fast in
theorem l6 : (LW.own.all fun n => !builtinNamed n) = true := by rw [te10792542408131684335]; kernel_rfl
open PySem.W.Fast in
theorem l7 : (namesMeet LW.prog LW.above fun x n => !LW.own.contains n) = true := by rw [te17119622794617984870, te10792542408131684335]; kernel_rfl
open PySem.W.Fast in
theorem l8 : (namesMeet LW.prog LW.footing fun sc n =>
      sc.kind == ScopeKind.module || List.lookup n sc.names != some NameKind.globalExplicit) =
    true := by rw [te17119622794617984870]; kernel_rfl
open PySem.W.Fast in
theorem law_said : LW.wellSaid = true := by
  unfold OpenLaw.wellSaid
  repeat (with_reducible refine look_both ?_ ?_)
  · exact row_said'
  · kernel_rfl
  · rw [te10501279942588096481]; kernel_rfl
  · rw [te8179353310426384613]; kernel_rfl
  · kernel_rfl
  · kernel_rfl
  · exact l1
  · rw [te9558739934217749035]; kernel_rfl
  · rw [te16286561074155671207]; kernel_rfl
  · kernel_rfl
  · exact l2
  · kernel_rfl
  · kernel_rfl
  · exact l3
  · exact l4
  · exact l5
  · exact l6
  · exact l7
  · exact l8
theorem cond_ok : (chainsOk QW && opensWell PW && (frees LW.row.toRowW && LW.row.toRowW.within.isEmpty)) = true := by decide +kernel
section
open PySem.W.Fast TablesWhole
noncomputable abbrev mSc : Scope := PW.main.scope
noncomputable abbrev mCx : TablesWhole.Ctx := ⟨PW.main.scope, [], [], [], none⟩
theorem top_len : PW.main.body.length = 155 := by kernel_rfl
theorem notw_ok : noTwice mSc = true := by rw [te8331962902438777018]; kernel_rfl
theorem gat_app (top : Scope) (cx : TablesWhole.Ctx) (sc : Scope) (a b : List Stmt) (h : wSs gather top cx sc a = []) : wSs gather top cx sc (a ++ b) = wSs gather top cx sc b := by
  induction a with
  | nil => rfl
  | cons s a ih =>
    have h : wS gather top cx sc s ++ wSs gather top cx sc a = [] := h
    show wS gather top cx sc s ++ wSs gather top cx sc (a ++ b) = _
    rw [(List.append_eq_nil_iff.mp h).1, ih (List.append_eq_nil_iff.mp h).2]; rfl
theorem hol_app (top : Scope) (cx : TablesWhole.Ctx) (sc : Scope) (a b : List Stmt) (h : wSs holds top cx sc a = true) : wSs holds top cx sc (a ++ b) = wSs holds top cx sc b := by
  induction a with
  | nil => rfl
  | cons s a ih =>
    have h : (wS holds top cx sc s && wSs holds top cx sc a) = true := h
    show (wS holds top cx sc s && wSs holds top cx sc (a ++ b)) = _
    rw [(Bool.and_eq_true_iff.mp h).1, ih (Bool.and_eq_true_iff.mp h).2]; rfl
theorem gat_cut {top : Scope} {cx : TablesWhole.Ctx} {sc : Scope} {l : List Stmt} (i n : Nat) (h : wSs gather top cx sc ((l.drop i).take n) = []) (h2 : wSs gather top cx sc (l.drop (i + n)) = []) : wSs gather top cx sc (l.drop i) = [] := by
  rw [← List.take_append_drop n (l.drop i), gat_app _ _ _ _ _ h, List.drop_drop, h2]
theorem hol_cut {top : Scope} {cx : TablesWhole.Ctx} {sc : Scope} {l : List Stmt} (i n : Nat) (h : wSs holds top cx sc ((l.drop i).take n) = true) (h2 : wSs holds top cx sc (l.drop (i + n)) = true) : wSs holds top cx sc (l.drop i) = true := by
  rw [← List.take_append_drop n (l.drop i), hol_app _ _ _ _ _ h, List.drop_drop, h2]
theorem gat0 : wSs gather mSc mCx mSc ((PW.main.body.drop 0).take 31) = [] := by rw [te16421684217811934046]; kernel_rfl
theorem hol0 : wSs holds mSc mCx mSc ((PW.main.body.drop 0).take 31) = true := by rw [te16421684217811934046]; kernel_rfl
theorem gat31 : wSs gather mSc mCx mSc ((PW.main.body.drop 31).take 31) = [] := by rw [te16421684217811934046]; kernel_rfl
theorem hol31 : wSs holds mSc mCx mSc ((PW.main.body.drop 31).take 31) = true := by rw [te16421684217811934046]; kernel_rfl
theorem gat62 : wSs gather mSc mCx mSc ((PW.main.body.drop 62).take 31) = [] := by rw [te16421684217811934046]; kernel_rfl
theorem hol62 : wSs holds mSc mCx mSc ((PW.main.body.drop 62).take 31) = true := by rw [te16421684217811934046]; kernel_rfl
theorem gat93 : wSs gather mSc mCx mSc ((PW.main.body.drop 93).take 31) = [] := by rw [te16421684217811934046]; kernel_rfl
theorem hol93 : wSs holds mSc mCx mSc ((PW.main.body.drop 93).take 31) = true := by rw [te16421684217811934046]; kernel_rfl
theorem gat124 : wSs gather mSc mCx mSc ((PW.main.body.drop 124).take 31) = [] := by rw [te16421684217811934046]; kernel_rfl
theorem hol124 : wSs holds mSc mCx mSc ((PW.main.body.drop 124).take 31) = true := by rw [te16421684217811934046]; kernel_rfl
theorem gat_ok : wSs gather mSc mCx mSc PW.main.body = [] := (gat_cut 0 31 gat0 (gat_cut 31 31 gat31 (gat_cut 62 31 gat62 (gat_cut 93 31 gat93 (gat_cut 124 31 gat124 (by rw [List.drop_of_length_le (Nat.le_of_eq top_len)]; rfl))))))
theorem hol_ok : wSs holds mSc mCx mSc PW.main.body = true := (hol_cut 0 31 hol0 (hol_cut 31 31 hol31 (hol_cut 62 31 hol62 (hol_cut 93 31 hol93 (hol_cut 124 31 hol124 (by rw [List.drop_of_length_le (Nat.le_of_eq top_len)]; rfl))))))
theorem mod_eq (m : Module) (h1 : noTwice m.scope = true) (h2 : wSs gather m.scope ⟨m.scope, [], [], [], none⟩ m.scope m.body = []) (h3 : wSs holds m.scope ⟨m.scope, [], [], [], none⟩ m.scope m.body = true) : wModule holds m = true := by
  unfold wModule
  simp only [h2, h1, h3]; rfl
theorem prog_eq (p : Program) (h1 : wModule holds p.main = true) (h2 : p.modules = []) (h3 : p.parses = []) (h4 : p.harvested = []) : p.tablesWhole = true := by
  unfold Program.tablesWhole wProgram
  rw [h1, h2, h3, h4]; rfl
theorem tables_ok : PW.tablesWhole = true := prog_eq PW (mod_eq PW.main notw_ok gat_ok hol_ok) rfl rfl rfl
theorem bare_ok : PW.bare := ⟨rfl, rfl, rfl, rfl, rfl, tables_ok⟩
end
theorem prom_ok : PySem.Challenge.rw_nu0352_01.row.toRowW.promised := by w_witness2
end
end Nu
theorem PySem.Challenge.cw_nu0352_01_holds : PySem.Challenge.rw_nu0352_01.Holds :=
  PySem.W.holds_law Nu.law_said fun said => PySem.W.holds_open Nu.left_ok (fun w s e => Frag.in_of (Nu.asL_ok w.params) e) (fun w h h' x k => Frag.In.keeps x k) (fun _ _ => trivial) (fun _ _ _ _ _ => trivial) Nu.hdef_ok Nu.hp_ok rfl (fun _ _ => recFacts_nil rfl) rfl said Nu.cond_ok Nu.bare_ok Nu.prom_ok Nu.walk_ok
